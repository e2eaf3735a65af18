import PyProof.Rows.All
import Wide.All
import OpenK.AllK
import Wide.FinOn
import HandS.Base
import HandS.Call
import HandS.List
import HandS.Comp
import HandS.Ends
import HandS.Dict
import HandS.Iter
import HandS.Exc
import HandS.Wide
import HandS.Property
import HandS.IsInst
import HandS.Defaults
import HandS.HeadHook1
import HandS.HeadHook2
import HandS.HeadHook3
import HandS.HeadHook4
import HandS.Lambda
import HandS.TupAny
import HandS.TupLe
import HandS.DictEq
import KE.KDictCopyH
import HandS.DictTup
import HandS.Text
import HandS.ExcOwn
import HandS.CallSlots
import HandS.HeadEnd
import KE.GoesEnum
import HandS.Walk
import HandS.DictComp
import KE.KExcInit
import KE.KNest
import HandS.ExcInit
import HandS.ExcField
import HandS.Head0
import HandS.Head1
import HandS.Head2
import KE.KStateDown
import HandS.Words
import HandS.TupMul
import PyProof.FactsAll.tuple_2
import PyProof.ReprRoads
import PyProof.FitsInt
import PyProof.ReprLen
import HandS.RaiseMore
import HandS.Star
import HandS.Style
import HandS.OwnEq
import KE.KDictOf
import HandS.Conv
import PyProof.ConsumeWalk
import HandS.ClsMeth
import HandS.FStr
import KE.KCallOwn
import HandS.More
import HandS.CallLocal
import HandS.Deep
import KE.GoesZip
import HandS.Zip
import KE.KLam
import HandS.EndTab
import KE.SortKeyHeap
import HandS.Small
import KE.KExcIs
import KE.KTryMore
import HandS.HotCalls
import HandS.ExcIs
import PyProof.InstNe
import HandS.TryElse
import PySem.Challenge.RW_haulprices_k65_claims_of_any_kind
import HandS.Codes
set_option Elab.async false
set_option linter.all false
set_option maxRecDepth 100000
set_option maxHeartbeats 1000000
namespace MP
open PySem PySem.Spec PyProof.Rows L2
abbrev St := L2.St
class TabsP where
  ts : List (Addr × Str)
variable [TabsP]
inductive D where
  | non | bl (b : Bool) | int (i : Int) | str (s : Str)
  | tup (xs : List D) | lst (xs : List D)
  | dK (kvs : List (Key × D)) | dT (kvs : List (List Key × D))
  | ins (c : Str) (fs : List (Str × D))
  | cel (n : Nat)
  | scr (ns : List Int) | ktp (xs : List D)
  | cls (c : Str)
def nrm : Option HO → Option HO
  | some (.frz _ (.dK k)) => some (.dK k)
  | some (.frz _ (.dT k)) => some (.dT k)
  | some (.tbl _) => none
  | o => o
structure FLe (F F' : Hp) : Prop where
  le : ∀ a u, nrm (F a) = some u → nrm (F' a) = some u
  fz : ∀ a o u, F a = some (.frz o u) → F' a = some (.frz o u)
instance {F F' : Hp} : CoeFun (FLe F F') (fun _ => ∀ a u, nrm (F a) = some u → nrm (F' a) = some u) := ⟨FLe.le⟩
theorem FLe.refl (F : Hp) : FLe F F := ⟨fun _ _ h => h, fun _ _ _ h => h⟩
theorem FLe.trans {F G H : Hp} (a : FLe F G) (b : FLe G H) : FLe F H := ⟨fun x u h => b x u (a x u h), fun x o u h => b.fz x o u (a.fz x o u h)⟩
theorem nrm_lst {o : Option HO} {xs} (h : nrm o = some (.lst xs)) : o = some (.lst xs) := by
  unfold nrm at h; split at h <;> first | exact h | cases h
theorem nrm_tup {o : Option HO} {xs} (h : nrm o = some (.tup xs)) : o = some (.tup xs) := by
  unfold nrm at h; split at h <;> first | exact h | cases h
theorem nrm_ins {o : Option HO} {c d f} (h : nrm o = some (.ins c d f)) : o = some (.ins c d f) := by
  unfold nrm at h; split at h <;> first | exact h | cases h
theorem nrm_frzL {o : Option HO} {b xs} (h : nrm o = some (.frz b (.lst xs))) : o = some (.frz b (.lst xs)) := by
  unfold nrm at h; split at h <;> first | exact h | cases h
theorem nrm_frzT {o : Option HO} {b xs} (h : nrm o = some (.frz b (.tup xs))) : o = some (.frz b (.tup xs)) := by
  unfold nrm at h; split at h <;> first | exact h | cases h
theorem nrm_dK {o : Option HO} {xs} (h : nrm o = some (.dK xs)) : o = some (.dK xs) ∨ ∃ b, o = some (.frz b (.dK xs)) := by
  unfold nrm at h
  split at h
  · cases h; exact .inr ⟨_, rfl⟩
  · cases h
  · cases h
  · exact .inl h
theorem nrm_dT {o : Option HO} {xs} (h : nrm o = some (.dT xs)) : o = some (.dT xs) ∨ ∃ b, o = some (.frz b (.dT xs)) := by
  unfold nrm at h
  split at h
  · cases h
  · cases h; exact .inr ⟨_, rfl⟩
  · cases h
  · exact .inl h
theorem sqL_fle {K F F' a xs} (l : FLe F F') (h : SqL K F a xs) : SqL K F' a xs := by
  rcases h with (h | ⟨o, h⟩) | h
  · exact .inl (.inl (nrm_lst (l a (.lst xs) (by rw [h]; rfl))))
  · exact .inl (.inr ⟨o, nrm_frzL (l a (.frz o (.lst xs)) (by rw [h]; rfl))⟩)
  · exact .inr h
theorem sqT_fle {K F F' a xs} (l : FLe F F') (h : SqT K F a xs) : SqT K F' a xs := by
  rcases h with (h | ⟨o, h⟩) | h
  · exact .inl (.inl (nrm_tup (l a (.tup xs) (by rw [h]; rfl))))
  · exact .inl (.inr ⟨o, nrm_frzT (l a (.frz o (.tup xs)) (by rw [h]; rfl))⟩)
  · exact .inr h
def TupK (K : PySem.W.Frag) (F : Hp) (a : Addr) (vs : List V) : Prop := F a = some (.tup vs) ∨ (vs = [] ∧ SqT K F a [])
theorem TupK.sq {K F a vs} (h : TupK K F a vs) : SqT K F a vs := by
  rcases h with h | ⟨rfl, h⟩
  · exact SqT.of h
  · exact h
theorem TupK.fle {K F F' a vs} (l : FLe F F') (h : TupK K F a vs) : TupK K F' a vs := by
  rcases h with h | ⟨e, h⟩
  · exact .inl (nrm_tup (l a (.tup vs) (by rw [h]; rfl)))
  · exact .inr ⟨e, sqT_fle l h⟩
mutual
inductive Den (K : PySem.W.Frag) (F : Hp) (Ad : List Addr) : V → D → Prop
  | non : Den K F Ad .non .non
  | bl {b} : Den K F Ad (.bl b) (.bl b)
  | int {i} : Den K F Ad (.int i) (.int i)
  | str {s} : Den K F Ad (.str s) (.str s)
  | tup {a vs ds} : TupK K F a vs → DenL K F Ad vs ds → Den K F Ad (.ref a) (.tup ds)
  | ktp {a vs ds} : SqT K F a vs → DenL K F Ad vs ds → Den K F Ad (.ref a) (.ktp ds)
  | lst {a vs ds} : F a = some (.lst vs) → DenL K F Ad vs ds → Den K F Ad (.ref a) (.lst ds)
  | scr {a ns} : SqL K F a (ns.map V.int) → Den K F Ad (.ref a) (.scr ns)
  | dK {a vs ds} : nrm (F a) = some (.dK vs) → DenK K F Ad vs ds → Den K F Ad (.ref a) (.dK ds)
  | dT {a vs ds} : nrm (F a) = some (.dT vs) → DenT K F Ad vs ds → Den K F Ad (.ref a) (.dT ds)
  | ins {a c dx vs ds} : F a = some (.ins (He.ga K c) dx vs) → DenF K F Ad vs ds → Den K F Ad (.ref a) (.ins c ds)
  | cel {a n} : Ad[n]? = some a → Den K F Ad (.ref a) (.cel n)
  | cls {c} : Den K F Ad (.ref (He.ga K c)) (.cls c)
inductive DenL (K : PySem.W.Frag) (F : Hp) (Ad : List Addr) : List V → List D → Prop
  | nil : DenL K F Ad [] []
  | cons {v d vs ds} : Den K F Ad v d → DenL K F Ad vs ds → DenL K F Ad (v :: vs) (d :: ds)
inductive DenK (K : PySem.W.Frag) (F : Hp) (Ad : List Addr) : List (Key × V) → List (Key × D) → Prop
  | nil : DenK K F Ad [] []
  | cons {k v d vs ds} : Den K F Ad v d → DenK K F Ad vs ds → DenK K F Ad ((k, v) :: vs) ((k, d) :: ds)
inductive DenT (K : PySem.W.Frag) (F : Hp) (Ad : List Addr) : List (List Key × V) → List (List Key × D) → Prop
  | nil : DenT K F Ad [] []
  | cons {k v d vs ds} : Den K F Ad v d → DenT K F Ad vs ds → DenT K F Ad ((k, v) :: vs) ((k, d) :: ds)
inductive DenF (K : PySem.W.Frag) (F : Hp) (Ad : List Addr) : List (Str × V) → List (Str × D) → Prop
  | nil : DenF K F Ad [] []
  | cons {k v d vs ds} : Den K F Ad v d → DenF K F Ad vs ds → DenF K F Ad ((k, v) :: vs) ((k, d) :: ds)
end
section
variable {K : PySem.W.Frag} {F F' : Hp} {Ad Ad' : List Addr}
mutual
theorem Den.mono (l : FLe F F') (p : ∀ (n : Nat) (a : Addr), Ad[n]? = some a → Ad'[n]? = some a) : ∀ {v d}, Den K F Ad v d → Den K F' Ad' v d
  | _, _, .non => .non
  | _, _, .bl => .bl
  | _, _, .int => .int
  | _, _, .str => .str
  | _, _, .tup h r => .tup (h.fle l) (r.mono l p)
  | _, _, .ktp h r => .ktp (sqT_fle l h) (r.mono l p)
  | _, _, .lst h r => .lst (nrm_lst (l _ (.lst _) (by rw [h]; rfl))) (r.mono l p)
  | _, _, .scr h => .scr (sqL_fle l h)
  | _, _, .dK h r => .dK (l _ _ h) (r.mono l p)
  | _, _, .dT h r => .dT (l _ _ h) (r.mono l p)
  | _, _, .ins h r => .ins (nrm_ins (l _ (.ins _ _ _) (by rw [h]; rfl))) (r.mono l p)
  | _, _, .cel h => .cel (p _ _ h)
  | _, _, .cls => .cls
theorem DenL.mono (l : FLe F F') (p : ∀ (n : Nat) (a : Addr), Ad[n]? = some a → Ad'[n]? = some a) : ∀ {v d}, DenL K F Ad v d → DenL K F' Ad' v d
  | _, _, .nil => .nil
  | _, _, .cons h r => .cons (h.mono l p) (r.mono l p)
theorem DenK.mono (l : FLe F F') (p : ∀ (n : Nat) (a : Addr), Ad[n]? = some a → Ad'[n]? = some a) : ∀ {v d}, DenK K F Ad v d → DenK K F' Ad' v d
  | _, _, .nil => .nil
  | _, _, .cons h r => .cons (h.mono l p) (r.mono l p)
theorem DenT.mono (l : FLe F F') (p : ∀ (n : Nat) (a : Addr), Ad[n]? = some a → Ad'[n]? = some a) : ∀ {v d}, DenT K F Ad v d → DenT K F' Ad' v d
  | _, _, .nil => .nil
  | _, _, .cons h r => .cons (h.mono l p) (r.mono l p)
theorem DenF.mono (l : FLe F F') (p : ∀ (n : Nat) (a : Addr), Ad[n]? = some a → Ad'[n]? = some a) : ∀ {v d}, DenF K F Ad v d → DenF K F' Ad' v d
  | _, _, .nil => .nil
  | _, _, .cons h r => .cons (h.mono l p) (r.mono l p)
end
theorem DenL.length : ∀ {vs ds}, DenL K F Ad vs ds → vs.length = ds.length
  | _, _, .nil => rfl
  | _, _, .cons _ r => by simp [DenL.length r]
theorem DenL.get : ∀ {vs ds} {i : Nat} {d : D}, DenL K F Ad vs ds → ds[i]? = some d → ∃ v, vs[i]? = some v ∧ Den K F Ad v d
  | _, _, _, _, .nil, e => by simp at e
  | _, _, 0, _, .cons h _, e => by simp at e; subst e; exact ⟨_, rfl, h⟩
  | _, _, i + 1, d, .cons _ r, e => by
    obtain ⟨v, h1, h2⟩ := DenL.get (i := i) (d := d) r (by simpa using e)
    exact ⟨v, by simpa using h1, h2⟩
theorem DenL.append : ∀ {vs ds ws es}, DenL K F Ad vs ds → DenL K F Ad ws es → DenL K F Ad (vs ++ ws) (ds ++ es)
  | _, _, _, _, .nil, s => s
  | _, _, _, _, .cons h r, s => .cons h (r.append s)
theorem DenL.set : ∀ {vs ds} {v d} (i : Nat), Den K F Ad v d → DenL K F Ad vs ds → DenL K F Ad (vs.set i v) (ds.set i d)
  | _, _, _, _, _, _, .nil => .nil
  | _, _, _, _, 0, h, .cons _ r => .cons h r
  | _, _, _, _, i + 1, h, .cons q r => .cons q (DenL.set i h r)
theorem DenL.take : ∀ {vs ds} (n : Nat), DenL K F Ad vs ds → DenL K F Ad (vs.take n) (ds.take n)
  | _, _, 0, _ => .nil
  | _, _, _ + 1, .nil => .nil
  | _, _, n + 1, .cons r t => .cons r (DenL.take n t)
theorem DenL.drop : ∀ {vs ds} (n : Nat), DenL K F Ad vs ds → DenL K F Ad (vs.drop n) (ds.drop n)
  | _, _, 0, r => r
  | _, _, _ + 1, .nil => .nil
  | _, _, n + 1, .cons _ t => DenL.drop n t
theorem DenF.lookup : ∀ {vs ds} {f : Str} {d : D}, DenF K F Ad vs ds → ds.lookup f = some d → ∃ v, vs.lookup f = some v ∧ Den K F Ad v d
  | _, _, _, _, .nil, e => by simp at e
  | _, _, f, d, .cons (k := k) h r, e => by
    rw [List.lookup_cons] at e ⊢
    cases q : f == k with
    | true => rw [q] at e; simp at e; subst e; exact ⟨_, rfl, h⟩
    | false => rw [q] at e; exact DenF.lookup r e
theorem DenF.none : ∀ {vs ds} {f : Str}, DenF K F Ad vs ds → ds.lookup f = Option.none → vs.lookup f = Option.none
  | _, _, _, .nil, e => by simp
  | _, _, f, .cons (k := k) h r, e => by
    rw [List.lookup_cons] at e ⊢
    cases q : f == k with
    | true => rw [q] at e; simp at e
    | false => rw [q] at e; exact DenF.none r e
theorem DenF.length : ∀ {vs ds}, DenF K F Ad vs ds → vs.length = ds.length
  | _, _, .nil => rfl
  | _, _, .cons _ r => by simp [DenF.length r]
theorem DenK.length : ∀ {vs ds}, DenK K F Ad vs ds → vs.length = ds.length
  | _, _, .nil => rfl
  | _, _, .cons _ r => by simp [DenK.length r]
theorem DenT.length : ∀ {vs ds}, DenT K F Ad vs ds → vs.length = ds.length
  | _, _, .nil => rfl
  | _, _, .cons _ r => by simp [DenT.length r]
end
inductive Root (K : PySem.W.Frag) (F : Hp) (Ad : List Addr) (H : Hp) (a : Addr) : D → Prop
  | lst {vs ds} : H a = some (.lst vs) → DenL K F Ad vs ds → Root K F Ad H a (.lst ds)
  | dK {vs ds} : H a = some (.dK vs) → DenK K F Ad vs ds → Root K F Ad H a (.dK ds)
  | dT {vs ds} : H a = some (.dT vs) → DenT K F Ad vs ds → Root K F Ad H a (.dT ds)
  | ins {c dx vs ds} : H a = some (.ins (He.ga K c) dx vs) → DenF K F Ad vs ds → Root K F Ad H a (.ins c ds)
def RootO : HO → Prop
  | .lst _ => True | .dK _ => True | .dT _ => True | .ins _ _ _ => True | _ => False
theorem Root.obj {K F Ad H a d} (r : Root K F Ad H a d) : ∃ o, H a = some o ∧ RootO o := by
  cases r with
  | lst h _ => exact ⟨_, h, trivial⟩
  | dK h _ => exact ⟨_, h, trivial⟩
  | dT h _ => exact ⟨_, h, trivial⟩
  | ins h _ => exact ⟨_, h, trivial⟩
theorem Root.mono {K F F' Ad Ad' H H' a d} (l : FLe F F') (p : ∀ (n : Nat) (a : Addr), Ad[n]? = some a → Ad'[n]? = some a) (e : H' a = H a) (r : Root K F Ad H a d) : Root K F' Ad' H' a d := by
  cases r with
  | lst h r => exact .lst (e.trans h) (r.mono l p)
  | dK h r => exact .dK (e.trans h) (r.mono l p)
  | dT h r => exact .dT (e.trans h) (r.mono l p)
  | ins h r => exact .ins (e.trans h) (r.mono l p)
structure MemOk (K : PySem.W.Frag) (F : Hp) (Ad : List Addr) (M : List D) (H : Hp) : Prop where
  sub : ∀ a u, F a = some u → H a = some u
  len : Ad.length = M.length
  nd : Ad.Nodup
  cel : ∀ (n : Nat) (a : Addr) (d : D), Ad[n]? = some a → M[n]? = some d → F a = none ∧ Root K F Ad H a d
  tab : LamX.Tabs TabsP.ts H
structure Gr (F : Hp) (Ad : List Addr) (H F' : Hp) (Ad' : List Addr) (H' : Hp) : Prop where
  fle : FLe F F'
  fnew : ∀ a o, H a = some o → RootO o → F a = none → a ∉ Ad → F' a = none
  apre : ∃ more, Ad' = Ad ++ more ∧ ∀ a ∈ more, H a = none
  keep : ∀ a o, H a = some o → RootO o → F a = none → a ∉ Ad → H' a = some o
  alive : ∀ a, H a ≠ none → H' a ≠ none
section
variable {K : PySem.W.Frag} {F F1 F2 H H1 H2 : Hp} {Ad Ad1 Ad2 : List Addr} {M : List D}
theorem Gr.refl : Gr F Ad H F Ad H := ⟨FLe.refl F, fun _ _ _ _ h _ => h, ⟨[], by simp, by simp⟩, fun _ _ h _ _ _ => h, fun _ h => h⟩
theorem Gr.pre (g : Gr F Ad H F1 Ad1 H1) : ∀ (n : Nat) (a : Addr), Ad[n]? = some a → Ad1[n]? = some a := fun n a h => by
  obtain ⟨more, e, _⟩ := g.apre
  rw [e, List.getElem?_append_left (List.getElem?_eq_some_iff.mp h).1]; exact h
theorem Gr.notin (g : Gr F Ad H F1 Ad1 H1) {a : Addr} (h : H a ≠ none) (n : a ∉ Ad) : a ∉ Ad1 := fun z => by
  obtain ⟨m1, e1, n1⟩ := g.apre
  rw [e1] at z
  rcases List.mem_append.mp z with z | z
  · exact n z
  · exact h (n1 a z)
theorem Gr.trans (g : Gr F Ad H F1 Ad1 H1) (g' : Gr F1 Ad1 H1 F2 Ad2 H2) : Gr F Ad H F2 Ad2 H2 := by
  obtain ⟨m1, e1, n1⟩ := g.apre
  obtain ⟨m2, e2, n2⟩ := g'.apre
  refine ⟨g.fle.trans g'.fle, fun a o h ro nf na => g'.fnew a o (g.keep a o h ro nf na) ro (g.fnew a o h ro nf na) (g.notin (by rw [h]; simp) na), ⟨m1 ++ m2, by rw [e2, e1, List.append_assoc], fun a ha => ?_⟩, fun a o h ro nf na => g'.keep a o (g.keep a o h ro nf na) ro (g.fnew a o h ro nf na) (g.notin (by rw [h]; simp) na), fun a h => g'.alive a (g.alive a h)⟩
  rcases List.mem_append.mp ha with h | h
  · exact n1 a h
  · cases q : H a with
    | none => rfl
    | some o => exact absurd (n2 a h) (g.alive a (by rw [q]; simp))
theorem Root.gr {a d} (g : Gr F Ad H F1 Ad1 H1) (nf : F a = none) (na : a ∉ Ad) (r : Root K F Ad H a d) : Root K F1 Ad1 H1 a d := by
  obtain ⟨o, h, ro⟩ := r.obj
  refine r.mono g.fle g.pre ?_
  rw [h]
  exact g.keep a o h ro nf na
end
inductive B where
  | no | shr (d : D) | own (d : D) | slf (d : D)
  | raw
  | par (d : D)
structure Ent where
  hp : Hp
  fz : Hp
  ad : List Addr
  me : Addr := 0
abbrev EnvM := List B
class ThkP where
  f : Addr
  ent : Ent
variable [ThkP]
def Rt (env : EnvM) (σ : St) (N0 : Ent) (b : Addr) : Prop := (∃ (j : Nat) (e : D), env[j]? = some (B.own e) ∧ σ[j]? = some (some (V.ref b))) ∨ ∃ (j : Nat) (e : D), env[j]? = some (B.slf e) ∧ b = N0.me
def PR (K : PySem.W.Frag) (N0 : Ent) (F : Hp) (Ad : List Addr) (H : Hp) (σ : St) (env : EnvM) (x : Addr) (d : D) : Prop := F x = none ∧ x ∉ Ad ∧ N0.hp x = none ∧ Root K F Ad H x d ∧ ¬ Rt env σ N0 x
structure EnvOk (K : PySem.W.Frag) (N0 : Ent) (F : Hp) (Ad : List Addr) (H : Hp) (σ : St) (env : EnvM) : Prop where
  len : env.length = σ.length
  shr : ∀ (i : Nat) (d : D), env[i]? = some (.shr d) → ∃ v, σ[i]? = some (some v) ∧ Den K F Ad v d
  own : ∀ (i : Nat) (d : D), env[i]? = some (.own d) → ∃ a, σ[i]? = some (some (.ref a)) ∧ F a = none ∧ a ∉ Ad ∧ N0.hp a = none ∧ Root K F Ad H a d
  dis : ∀ (i j : Nat) (d e : D) (a : Addr), env[i]? = some (.own d) → env[j]? = some (.own e) → σ[i]? = some (some (.ref a)) → σ[j]? = some (some (.ref a)) → i = j
  slf : ∀ (i : Nat) (d : D), env[i]? = some (.slf d) → i = 0 ∧ σ[i]? = some (some (.ref N0.me)) ∧ F N0.me = none ∧ N0.me ∉ Ad ∧ N0.hp N0.me = none ∧ Root K F Ad H N0.me d ∧ ∀ (j : Nat) (e : D), env[j]? = some (.own e) → σ[j]? ≠ some (some (.ref N0.me))
  par : ∀ (i : Nat) (d : D), env[i]? = some (.par d) → ∃ a x y d1 d2, d = .tup [d1, d2] ∧ σ[i]? = some (some (.ref a)) ∧ F a = some (.tup [.ref x, .ref y]) ∧ x ≠ y ∧ PR K N0 F Ad H σ env x d1 ∧ PR K N0 F Ad H σ env y d2 ∧ ∀ (j : Nat) (e : D), env[j]? = some (.par e) → j = i
  raw : ∀ (i : Nat), env[i]? = some .raw → σ[i]? = some (some (.ref ThkP.f)) ∧ N0 = ThkP.ent ∧ Gr N0.fz N0.ad N0.hp F Ad H
section
variable {K : PySem.W.Frag} {N0 : Ent} {F F1 H H1 : Hp} {Ad Ad1 : List Addr} {σ : St} {env : EnvM}
theorem EnvOk.parM {F' H' : Hp} {Ad' : List Addr} {σ' : St} {env' : EnvM} (e : EnvOk K N0 F Ad H σ env) (l : FLe F F')
    (hp : ∀ x d, F x = none → x ∉ Ad → N0.hp x = none → Root K F Ad H x d → ¬ Rt env σ N0 x → F' x = none ∧ x ∉ Ad' ∧ Root K F' Ad' H' x d ∧ ¬ Rt env' σ' N0 x)
    (he : ∀ (i : Nat) (d : D), env'[i]? = some (.par d) → env[i]? = some (.par d) ∧ σ'[i]? = σ[i]?) (i : Nat) (d : D) (h : env'[i]? = some (.par d)) :
    ∃ a x y d1 d2, d = .tup [d1, d2] ∧ σ'[i]? = some (some (.ref a)) ∧ F' a = some (.tup [.ref x, .ref y]) ∧ x ≠ y ∧ PR K N0 F' Ad' H' σ' env' x d1 ∧ PR K N0 F' Ad' H' σ' env' y d2 ∧ ∀ (j : Nat) (e : D), env'[j]? = some (.par e) → j = i := by
  obtain ⟨h1, h2⟩ := he i d h
  obtain ⟨a, x, y, d1, d2, q1, q2, q3, q4, ⟨x1, x2, x3, x4, x5⟩, ⟨y1, y2, y3, y4, y5⟩, q7⟩ := e.par i d h1
  obtain ⟨u1, u2, u3, u4⟩ := hp x d1 x1 x2 x3 x4 x5
  obtain ⟨w1, w2, w3, w4⟩ := hp y d2 y1 y2 y3 y4 y5
  exact ⟨a, x, y, d1, d2, q1, by rw [h2]; exact q2, nrm_tup (l a (.tup _) (by rw [q3]; rfl)), q4, ⟨u1, u2, x3, u3, u4⟩, ⟨w1, w2, y3, w3, w4⟩, fun j e hj => q7 j e (he j e hj).1⟩
theorem Rt.set {j : Nat} {v : Option V} {b : B} {x : Addr} (hb : (∀ d, b ≠ .own d) ∧ ∀ d, b ≠ .slf d) (h : Rt (env.set j b) (σ.set j v) N0 x) : Rt env σ N0 x := by
  have hn : ∀ {i : Nat} {c : B}, (env.set j b)[i]? = some c → c ≠ b → j ≠ i ∧ env[i]? = some c := fun {i c} h hc => by
    by_cases e : j = i
    · subst e
      by_cases hl : j < env.length
      · rw [List.getElem?_set_self hl] at h; cases h; exact absurd rfl hc
      · rw [List.getElem?_eq_none (by simpa using hl)] at h; cases h
    · rw [List.getElem?_set_ne e] at h; exact ⟨e, h⟩
  rcases h with ⟨i, e, h1, h2⟩ | ⟨i, e, h1, h2⟩
  · obtain ⟨ne, h1⟩ := hn h1 (Ne.symm (hb.1 e))
    rw [List.getElem?_set_ne ne] at h2
    exact .inl ⟨i, e, h1, h2⟩
  · obtain ⟨ne, h1⟩ := hn h1 (Ne.symm (hb.2 e))
    exact .inr ⟨i, e, h1, h2⟩
theorem Rt.setE {j : Nat} {b : B} {x : Addr} (hb : ((∀ d, b ≠ .own d) ∨ ∃ d, env[j]? = some (.own d)) ∧ ((∀ d, b ≠ .slf d) ∨ ∃ d, env[j]? = some (.slf d))) (h : Rt (env.set j b) σ N0 x) : Rt env σ N0 x := by
  have hn : ∀ {i : Nat} {c : B}, (env.set j b)[i]? = some c → (i = j ∧ c = b) ∨ env[i]? = some c := fun {i c} h => by
    by_cases e : j = i
    · subst e
      by_cases hl : j < env.length
      · rw [List.getElem?_set_self hl] at h; cases h; exact .inl ⟨rfl, rfl⟩
      · rw [List.getElem?_eq_none (by simpa using hl)] at h; cases h
    · rw [List.getElem?_set_ne e] at h; exact .inr h
  rcases h with ⟨i, e, h1, h2⟩ | ⟨i, e, h1, h2⟩
  · rcases hn h1 with ⟨rfl, rfl⟩ | h1
    · rcases hb.1 with q | ⟨d, q⟩
      · exact absurd rfl (q e)
      · exact .inl ⟨i, d, q, h2⟩
    · exact .inl ⟨i, e, h1, h2⟩
  · rcases hn h1 with ⟨rfl, rfl⟩ | h1
    · rcases hb.2 with q | ⟨d, q⟩
      · exact absurd rfl (q e)
      · exact .inr ⟨i, d, q, h2⟩
    · exact .inr ⟨i, e, h1, h2⟩
theorem par_set {j : Nat} {v : Option V} {b : B} (hb : ∀ d, b ≠ .par d) (i : Nat) (d : D) (h : (env.set j b)[i]? = some (.par d)) : env[i]? = some (.par d) ∧ (σ.set j v)[i]? = σ[i]? := by
  have e : j ≠ i := fun e => by
    subst e
    by_cases hl : j < env.length
    · rw [List.getElem?_set_self hl] at h; exact hb d (Option.some.inj h)
    · rw [List.getElem?_eq_none (by simpa using hl)] at h; cases h
  rw [List.getElem?_set_ne e] at h ⊢
  exact ⟨h, rfl⟩
theorem par_setE {j : Nat} {b : B} (hb : ∀ d, b ≠ .par d) (i : Nat) (d : D) (h : (env.set j b)[i]? = some (.par d)) : env[i]? = some (.par d) ∧ σ[i]? = σ[i]? := ⟨(par_set (σ := σ) (v := none) hb i d h).1, rfl⟩
theorem EnvOk.gr (e : EnvOk K N0 F Ad H σ env) (g : Gr F Ad H F1 Ad1 H1) : EnvOk K N0 F1 Ad1 H1 σ env := by
  refine ⟨e.len, fun i d h => ?_, fun i d h => ?_, e.dis, fun i d h => ?_, e.parM g.fle (fun x d h1 h2 h3 h4 h5 => ⟨g.fnew x _ h4.obj.choose_spec.1 h4.obj.choose_spec.2 h1 h2, g.notin (by rw [h4.obj.choose_spec.1]; simp) h2, h4.gr g h1 h2, h5⟩) (fun i d h => ⟨h, rfl⟩), fun i h => ⟨(e.raw i h).1, (e.raw i h).2.1, (e.raw i h).2.2.trans g⟩⟩
  · obtain ⟨v, h1, h2⟩ := e.shr i d h
    exact ⟨v, h1, h2.mono g.fle g.pre⟩
  · obtain ⟨a, h1, h2, h3, h4, h5⟩ := e.own i d h
    obtain ⟨o, ho, ro⟩ := h5.obj
    exact ⟨a, h1, g.fnew a o ho ro h2 h3, g.notin (by rw [ho]; simp) h3, h4, h5.gr g h2 h3⟩
  · obtain ⟨h0, h1, h2, h3, h4, h5, h6⟩ := e.slf i d h
    obtain ⟨o, ho, ro⟩ := h5.obj
    exact ⟨h0, h1, g.fnew _ o ho ro h2 h3, g.notin (by rw [ho]; simp) h3, h4, h5.gr g h2 h3, h6⟩
end
structure Xc where
  c : Str
  fs : List (Str × D)
inductive R where
  | ok (d : D) (M : List D) | exc (x : Xc) (M : List D) | stuck
inductive RL where
  | ok (d : List D) (M : List D) | exc (x : Xc) (M : List D) | stuck
inductive RS where
  | next (env : EnvM) (M : List D) | ret (d : D) (M : List D) | brk (env : EnvM) (M : List D) | cont (env : EnvM) (M : List D)
  | exc (x : Xc) (env : EnvM) (M : List D) | stuck
abbrev EF := EnvM → List D → R
abbrev LF := EnvM → List D → RL
abbrev SF := EnvM → List D → RS
def R.bind (r : R) (k : D → List D → R) : R := match r with
  | .ok d M => k d M | .exc x M => .exc x M | .stuck => .stuck
def R.bindL (r : R) (k : D → List D → RL) : RL := match r with
  | .ok d M => k d M | .exc x M => .exc x M | .stuck => .stuck
def RL.bind (r : RL) (k : List D → List D → R) : R := match r with
  | .ok d M => k d M | .exc x M => .exc x M | .stuck => .stuck
def RL.bindL (r : RL) (k : List D → List D → RL) : RL := match r with
  | .ok d M => k d M | .exc x M => .exc x M | .stuck => .stuck
def R.bindS (r : R) (env : EnvM) (k : D → List D → RS) : RS := match r with
  | .ok d M => k d M | .exc x M => .exc x env M | .stuck => .stuck
@[simp] theorem R.bind_ok {d M k} : (R.ok d M).bind k = k d M := rfl
@[simp] theorem R.bindL_ok {d M k} : (R.ok d M).bindL k = k d M := rfl
@[simp] theorem RL.bind_ok {d M k} : (RL.ok d M).bind k = k d M := rfl
@[simp] theorem RL.bindL_ok {d M k} : (RL.ok d M).bindL k = k d M := rfl
@[simp] theorem R.bindS_ok {d M env k} : (R.ok d M).bindS env k = k d M := rfl
abbrev DRel := Hp → Hp → List Addr → Hp → V → D → Prop
def DE (K : PySem.W.Frag) : DRel := fun _ F Ad _ v d => Den K F Ad v d
def DB (K : PySem.W.Frag) : DRel := fun _ F Ad H v d => Den K F Ad v d ∨ ∃ a, v = .ref a ∧ F a = none ∧ a ∉ Ad ∧ Root K F Ad H a d
def DO (K : PySem.W.Frag) : DRel := fun H0 F Ad H v d => ∃ a, v = .ref a ∧ F a = none ∧ a ∉ Ad ∧ H0 a = none ∧ Root K F Ad H a d
def XOk (K : PySem.W.Frag) (F : Hp) (Ad : List Addr) (H : Hp) (x : Xc) (cls : Value) (dx : Option Addr) : Prop :=
  cls = .ref (He.ga K x.c) ∧ match dx with
    | none => x.fs = []
    | some d => ∃ vs, H d = some (.xd vs) ∧ DenF K F Ad vs x.fs
def RP (K : PySem.W.Frag) (E : XK) (DR : DRel) (F : Hp) (Ad : List Addr) (H : Hp) (Q : VK) : R → Prop
  | .ok d M' => ∀ v F' Ad' H', Gr F Ad H F' Ad' H' → MemOk K F' Ad' M' H' → DR H F' Ad' H' v d → Q v H'
  | .exc x M' => ∀ cls dx F' Ad' H', Gr F Ad H F' Ad' H' → MemOk K F' Ad' M' H' → XOk K F' Ad' H' x cls dx → E cls dx H'
  | .stuck => False
abbrev DRelL := Hp → List Addr → Hp → List V → List D → Prop
def RPL (K : PySem.W.Frag) (E : XK) (DL : DRelL) (F : Hp) (Ad : List Addr) (H : Hp) (Q : List V → Hp → Prop) : RL → Prop
  | .ok d M' => ∀ v F' Ad' H', Gr F Ad H F' Ad' H' → MemOk K F' Ad' M' H' → DL F' Ad' H' v d → Q v H'
  | .exc x M' => ∀ cls dx F' Ad' H', Gr F Ad H F' Ad' H' → MemOk K F' Ad' M' H' → XOk K F' Ad' H' x cls dx → E cls dx H'
  | .stuck => False
def DRok (DR : DRel) : Prop := ∀ F0 Ad0 H0 F Ad H F' Ad' H' v d, Gr F0 Ad0 H0 F Ad H → DR H F' Ad' H' v d → DR H0 F' Ad' H' v d
theorem DE.ok {K} : DRok (DE K) := fun _ _ _ _ _ _ _ _ _ _ _ _ h => h
theorem DB.ok {K} : DRok (DB K) := fun _ _ _ _ _ _ _ _ _ _ _ _ h => h
theorem DO.ok {K} : DRok (DO K) := fun _ _ H0 _ _ H _ _ _ _ _ g ⟨a, h1, h2, h3, h4, h5⟩ => ⟨a, h1, h2, h3, by
  cases q : H0 a with
  | none => rfl
  | some o => exact absurd h4 (g.alive a (by rw [q]; simp)), h5⟩
def DLE (K : PySem.W.Frag) : DRelL := fun F Ad _ vs ds => DenL K F Ad vs ds
inductive DLB (K : PySem.W.Frag) (F : Hp) (Ad : List Addr) (H : Hp) : List V → List D → Prop
  | nil : DLB K F Ad H [] []
  | cons {v d vs ds} : DB K H F Ad H v d → DLB K F Ad H vs ds → DLB K F Ad H (v :: vs) (d :: ds)
section
variable {K : PySem.W.Frag} {E : XK} {DR : DRel} {DL : DRelL} {F F1 H H1 : Hp} {Ad Ad1 : List Addr} {Q : VK}
theorem RP.gr {r : R} (dr : DRok DR) (h : RP K E DR F Ad H Q r) (g : Gr F Ad H F1 Ad1 H1) : RP K E DR F1 Ad1 H1 Q r := by
  cases r with
  | ok d M => exact fun v F' Ad' H' g' m x => h v F' Ad' H' (g.trans g') m (dr _ _ _ _ _ _ _ _ _ _ _ g x)
  | exc x M => exact fun c dx F' Ad' H' g' m z => h c dx F' Ad' H' (g.trans g') m z
  | stuck => exact h
theorem RPL.gr {r : RL} {Q : List V → Hp → Prop} (h : RPL K E DL F Ad H Q r) (g : Gr F Ad H F1 Ad1 H1) : RPL K E DL F1 Ad1 H1 Q r := by
  cases r with
  | ok d M => exact fun v F' Ad' H' g' m x => h v F' Ad' H' (g.trans g') m x
  | exc x M => exact fun c dx F' Ad' H' g' m z => h c dx F' Ad' H' (g.trans g') m z
  | stuck => exact h
theorem DB.gr {v d H0 H0'} (g : Gr F Ad H F1 Ad1 H1) (h : DB K H0 F Ad H v d) : DB K H0' F1 Ad1 H1 v d := by
  rcases h with h | ⟨a, e, n, na, r⟩
  · exact .inl (h.mono g.fle g.pre)
  · obtain ⟨o, ho, ro⟩ := r.obj
    exact .inr ⟨a, e, g.fnew a o ho ro n na, g.notin (by rw [ho]; simp) na, r.gr g n na⟩
theorem DLB.gr (g : Gr F Ad H F1 Ad1 H1) : ∀ {vs ds}, DLB K F Ad H vs ds → DLB K F1 Ad1 H1 vs ds
  | _, _, .nil => .nil
  | _, _, .cons h r => .cons (DB.gr g h) (DLB.gr g r)
theorem DLB.of : ∀ {vs ds}, DenL K F Ad vs ds → DLB K F Ad H vs ds
  | _, _, .nil => .nil
  | _, _, .cons h r => .cons (.inl h) (DLB.of r)
end
def tG (K : PySem.W.Frag) (W : WX) (DR : DRel) (f : EF) : TE := fun σ H Q => ∃ N0 F Ad M env, MemOk K F Ad M H ∧ EnvOk K N0 F Ad H σ env ∧ RP K (fun c d H => W c d σ H) DR F Ad H Q (f env M)
def tL (K : PySem.W.Frag) (W : WX) (DL : DRelL) (f : LF) : TA := fun σ H Q => ∃ N0 F Ad M env, MemOk K F Ad M H ∧ EnvOk K N0 F Ad H σ env ∧ RPL K (fun c d H => W c d σ H) DL F Ad H Q (f env M)
abbrev SE (X : Cx) (W : WX) (e : Expr) (f : EF) : Prop := PE X e (tG X.K W (DE X.K) f)
abbrev SB (X : Cx) (W : WX) (e : Expr) (f : EF) : Prop := PE X e (tG X.K W (DB X.K) f)
abbrev SO (X : Cx) (W : WX) (e : Expr) (f : EF) : Prop := PE X e (tG X.K W (DO X.K) f)
abbrev SL (X : Cx) (W : WX) (es : List Expr) (f : LF) : Prop := PA X es (tL X.K W (DLE X.K) f)
abbrev SLB (X : Cx) (W : WX) (es : List Expr) (f : LF) : Prop := PA X es (tL X.K W (DLB X.K) f)
theorem PE.imp {X : Cx} {e : Expr} {t u : TE} (h : PE X e t) (i : ∀ σ H Q, u σ H Q → t σ H Q) : PE X e u := ⟨fun pins s σ H Q I q => h.run pins s σ H Q I (i σ H Q q)⟩
theorem PA.imp {X : Cx} {e : List Expr} {t u : TA} (h : PA X e t) (i : ∀ σ H Q, u σ H Q → t σ H Q) : PA X e u := ⟨fun pos pins s σ H Q I q => h.run pos pins s σ H Q I (i σ H Q q)⟩
theorem PT.imp {X : Cx} {e : Expr} {t u : TT} (h : PT X e t) (i : ∀ σ H Q, u σ H Q → t σ H Q) : PT X e u := ⟨fun pins s σ H Q I q => h.run pins s σ H Q I (i σ H Q q)⟩
theorem PW.imp {X : Cx} {e : Expr} {t u : TT} (h : PW X e t) (i : ∀ σ H Q, u σ H Q → t σ H Q) : PW X e u := ⟨fun w pins s σ H Q I q => h.run w pins s σ H Q I (i σ H Q q)⟩
theorem PS.imp {X : Cx} {e : Stmt} {t u : TS} (h : PS X e t) (i : ∀ D σ H, u D σ H → t D σ H) : PS X e u := ⟨fun pins s σ H D I q => h.run pins s σ H D I (i D σ H q)⟩
theorem PSs.imp {X : Cx} {e : List Stmt} {t u : TS} (h : PSs X e t) (i : ∀ D σ H, u D σ H → t D σ H) : PSs X e u := ⟨fun pins s σ H D I q => h.run pins s σ H D I (i D σ H q)⟩
section
variable {K : PySem.W.Frag} {W : WX} {DR' : DRel} {DL : DRelL} {N0 : Ent} {F : Hp} {Ad : List Addr} {M : List D} {env : EnvM} {σ : St} {H : Hp}
theorem tG_seq {DR : DRel} {f : EF} {k : D → List D → R} {Q : VK} (dr : DRok DR) (m : MemOk K F Ad M H) (e : EnvOk K N0 F Ad H σ env)
    (h : RP K (fun c d H => W c d σ H) DR F Ad H Q ((f env M).bind k)) {Q' : VK}
    (hq : ∀ d M1 v F1 Ad1 H1, Gr F Ad H F1 Ad1 H1 → MemOk K F1 Ad1 M1 H1 → EnvOk K N0 F1 Ad1 H1 σ env → DR' H F1 Ad1 H1 v d → RP K (fun c d H => W c d σ H) DR F1 Ad1 H1 Q (k d M1) → Q' v H1) : tG K W DR' f σ H Q' := by
  refine ⟨N0, F, Ad, M, env, m, e, ?_⟩
  cases q : f env M with
  | ok d M1 => rw [q] at h; exact fun v F' Ad' H' g m' x => hq d M1 v F' Ad' H' g m' (e.gr g) x (RP.gr dr h g)
  | exc x M1 => rw [q] at h; exact h
  | stuck => rw [q] at h; exact h
theorem tL_seq {DR : DRel} {f : LF} {k : List D → List D → R} {Q : VK} (dr : DRok DR) (m : MemOk K F Ad M H) (e : EnvOk K N0 F Ad H σ env)
    (h : RP K (fun c d H => W c d σ H) DR F Ad H Q ((f env M).bind k)) {Q' : List V → Hp → Prop}
    (hq : ∀ d M1 v F1 Ad1 H1, Gr F Ad H F1 Ad1 H1 → MemOk K F1 Ad1 M1 H1 → EnvOk K N0 F1 Ad1 H1 σ env → DL F1 Ad1 H1 v d → RP K (fun c d H => W c d σ H) DR F1 Ad1 H1 Q (k d M1) → Q' v H1) : tL K W DL f σ H Q' := by
  refine ⟨N0, F, Ad, M, env, m, e, ?_⟩
  cases q : f env M with
  | ok d M1 => rw [q] at h; exact fun v F' Ad' H' g m' x => hq d M1 v F' Ad' H' g m' (e.gr g) x (RP.gr dr h g)
  | exc x M1 => rw [q] at h; exact h
  | stuck => rw [q] at h; exact h
theorem tG_seqL {f : EF} {k : D → List D → RL} {Q : List V → Hp → Prop} (m : MemOk K F Ad M H) (e : EnvOk K N0 F Ad H σ env)
    (h : RPL K (fun c d H => W c d σ H) DL F Ad H Q ((f env M).bindL k)) {Q' : VK}
    (hq : ∀ d M1 v F1 Ad1 H1, Gr F Ad H F1 Ad1 H1 → MemOk K F1 Ad1 M1 H1 → EnvOk K N0 F1 Ad1 H1 σ env → DR' H F1 Ad1 H1 v d → RPL K (fun c d H => W c d σ H) DL F1 Ad1 H1 Q (k d M1) → Q' v H1) : tG K W DR' f σ H Q' := by
  refine ⟨N0, F, Ad, M, env, m, e, ?_⟩
  cases q : f env M with
  | ok d M1 => rw [q] at h; exact fun v F' Ad' H' g m' x => hq d M1 v F' Ad' H' g m' (e.gr g) x (RPL.gr h g)
  | exc x M1 => rw [q] at h; exact h
  | stuck => rw [q] at h; exact h
theorem tL_seqL {DL' : DRelL} {f : LF} {k : List D → List D → RL} {Q : List V → Hp → Prop} (m : MemOk K F Ad M H) (e : EnvOk K N0 F Ad H σ env)
    (h : RPL K (fun c d H => W c d σ H) DL F Ad H Q ((f env M).bindL k)) {Q' : List V → Hp → Prop}
    (hq : ∀ d M1 v F1 Ad1 H1, Gr F Ad H F1 Ad1 H1 → MemOk K F1 Ad1 M1 H1 → EnvOk K N0 F1 Ad1 H1 σ env → DL' F1 Ad1 H1 v d → RPL K (fun c d H => W c d σ H) DL F1 Ad1 H1 Q (k d M1) → Q' v H1) : tL K W DL' f σ H Q' := by
  refine ⟨N0, F, Ad, M, env, m, e, ?_⟩
  cases q : f env M with
  | ok d M1 => rw [q] at h; exact fun v F' Ad' H' g m' x => hq d M1 v F' Ad' H' g m' (e.gr g) x (RPL.gr h g)
  | exc x M1 => rw [q] at h; exact h
  | stuck => rw [q] at h; exact h
end
theorem tabs_mono {T : List (Addr × Str)} {H H' : Hp} (t : LamX.Tabs T H) (k : ∀ b o, H b = some o → ¬ RootO o → H' b = some o) : LamX.Tabs T H' := fun p hp => by
  obtain ⟨ps, h1, h2, h3⟩ := t p hp
  refine ⟨ps, k _ _ h1 id, h2, fun pos cv hc => ?_⟩
  obtain ⟨c, e1, e2⟩ := h3 pos cv hc
  exact ⟨c, e1, k _ _ e2 id⟩
theorem tabs_new {T : List (Addr × Str)} {H : Hp} {p : Addr} {o : HO} (t : LamX.Tabs T H) (hp : H p = none) : LamX.Tabs T (upd H p o) := tabs_mono t fun b u h _ => by
  rw [upd_ne (fun e => by rw [e, hp] at h; cases h)]; exact h
theorem tabs_root {T : List (Addr × Str)} {H : Hp} {p : Addr} {o u : HO} (t : LamX.Tabs T H) (hp : H p = some u) (ru : RootO u) : LamX.Tabs T (upd H p o) := tabs_mono t fun b v h n => by
  rw [upd_ne (fun e => by rw [e, hp] at h; cases h; exact n ru)]; exact h
end MP
set_option maxRecDepth 100000
set_option maxHeartbeats 1000000
namespace MP
open PySem PySem.Spec PyProof.Rows L2
variable [TabsP] [ThkP]
section
variable {X : Cx} {W : WX} {K : PySem.W.Frag} {E : XK} {DR : DRel} {N0 : Ent} {H0 F H : Hp} {Ad : List Addr} {M : List D} {env : EnvM} {σ : St} {Q : VK}
theorem RP.here {v d} (h : RP K E DR F Ad H Q (.ok d M)) (m : MemOk K F Ad M H) (x : DR H F Ad H v d) : Q v H := h v F Ad H Gr.refl m x
theorem fle_new {p : Addr} {o : HO} (h : F p = none) : FLe F (upd F p o) := ⟨fun b u hb => by
  by_cases eb : b = p
  · subst eb; rw [h] at hb; cases hb
  · rw [upd_ne eb]; exact hb, fun b o' u hb => by
  by_cases eb : b = p
  · subst eb; rw [h] at hb; cases hb
  · rw [upd_ne eb]; exact hb⟩
theorem mem_new {p : Addr} {o : HO} (m : MemOk K F Ad M H) (hp : H p = none) : MemOk K (upd F p o) Ad M (upd H p o) := by
  have hF : F p = none := by
    cases q : F p with
    | none => rfl
    | some u => rw [m.sub p u q] at hp; cases hp
  refine ⟨fun a u h => ?_, m.len, m.nd, fun n a d h1 h2 => ?_, tabs_new m.tab hp⟩
  · by_cases e : a = p
    · subst e; rw [upd_same] at h ⊢; exact h
    · rw [upd_ne e] at h ⊢; exact m.sub a u h
  · obtain ⟨f, r⟩ := m.cel n a d h1 h2
    obtain ⟨u, hu, _⟩ := r.obj
    have e : a ≠ p := fun e => by rw [e, hp] at hu; cases hu
    refine ⟨by rw [upd_ne e]; exact f, r.mono (fle_new hF) (fun _ _ h => h) (by rw [upd_ne e])⟩
theorem MemOk.none (m : MemOk K F Ad M H) {p : Addr} (hp : H p = Option.none) : F p = Option.none := by
  cases q : F p with
  | none => rfl
  | some u => rw [m.sub p u q] at hp; cases hp
theorem MemOk.notin (m : MemOk K F Ad M H) {p : Addr} (hp : H p = Option.none) : p ∉ Ad := fun z => by
  obtain ⟨n, hn, e⟩ := List.mem_iff_getElem.mp z
  have h1 : Ad[n]? = some p := by rw [List.getElem?_eq_getElem hn, e]
  have h2 : n < M.length := by rw [← m.len]; exact hn
  obtain ⟨_, r⟩ := m.cel n p M[n] h1 (List.getElem?_eq_getElem h2)
  obtain ⟨o, ho, _⟩ := r.obj
  rw [hp] at ho; cases ho
theorem gr_new {p : Addr} {o : HO} (m : MemOk K F Ad M H) (hp : H p = none) : Gr F Ad H (upd F p o) Ad (upd H p o) := by
  refine ⟨fle_new (m.none hp), fun a o' h' _ h _ => ?_, ⟨[], by simp, by simp⟩, fun a u h _ _ _ => ?_, fun a h => ?_⟩
  · rw [upd_ne (fun e => by rw [e, hp] at h'; cases h')]; exact h
  · rw [upd_ne (fun e => by rw [e, hp] at h; cases h)]; exact h
  · rw [upd_ne (fun e => h (by rw [e]; exact hp))]; exact h
theorem mem_own {p : Addr} {o : HO} (m : MemOk K F Ad M H) (hp : H p = none) : MemOk K F Ad M (upd H p o) := by
  refine ⟨fun a u h => ?_, m.len, m.nd, fun n a d h1 h2 => ?_, tabs_new m.tab hp⟩
  · rw [upd_ne (fun e => by rw [e, m.none hp] at h; cases h)]; exact m.sub a u h
  · obtain ⟨f, r⟩ := m.cel n a d h1 h2
    obtain ⟨u, hu, _⟩ := r.obj
    have e : a ≠ p := fun e => by rw [e, hp] at hu; cases hu
    exact ⟨f, r.mono (FLe.refl F) (fun _ _ h => h) (by rw [upd_ne e])⟩
theorem gr_own {p : Addr} {o : HO} (hp : H p = none) : Gr F Ad H F Ad (upd H p o) := by
  refine ⟨FLe.refl F, fun a _ _ _ h _ => h, ⟨[], by simp, by simp⟩, fun a u h _ _ _ => ?_, fun a h => ?_⟩
  · rw [upd_ne (fun e => by rw [e, hp] at h; cases h)]; exact h
  · rw [upd_ne (fun e => h (by rw [e]; exact hp))]; exact h
theorem RP.newTup {vs ds} {p : Addr} (h : RP K E (DE K) F Ad H Q (.ok (.tup ds) M)) (m : MemOk K F Ad M H) (x : DenL K F Ad vs ds) (hp : H p = none) : Q (.ref p) (upd H p (.tup vs)) :=
  h _ _ _ _ (gr_new m hp) (mem_new m hp) (.tup (.inl upd_same) (x.mono (fle_new (m.none hp)) fun _ _ h => h))
theorem RP.newLst {vs ds} {p : Addr} (h : RP K E (DE K) F Ad H Q (.ok (.lst ds) M)) (m : MemOk K F Ad M H) (x : DenL K F Ad vs ds) (hp : H p = none) : Q (.ref p) (upd H p (.lst vs)) :=
  h _ _ _ _ (gr_new m hp) (mem_new m hp) (.lst upd_same (x.mono (fle_new (m.none hp)) fun _ _ h => h))
theorem RP.ownLst {vs ds} {p : Addr} (h : RP K E (DO K) F Ad H Q (.ok (.lst ds) M)) (m : MemOk K F Ad M H) (x : DenL K F Ad vs ds) (hp : H p = none) : Q (.ref p) (upd H p (.lst vs)) :=
  h _ _ _ _ (gr_own hp) (mem_own m hp) ⟨p, rfl, m.none hp, m.notin hp, hp, .lst upd_same x⟩
theorem RP.ownDK {vs ds} {p : Addr} (h : RP K E (DO K) F Ad H Q (.ok (.dK ds) M)) (m : MemOk K F Ad M H) (x : DenK K F Ad vs ds) (hp : H p = none) : Q (.ref p) (upd H p (.dK vs)) :=
  h _ _ _ _ (gr_own hp) (mem_own m hp) ⟨p, rfl, m.none hp, m.notin hp, hp, .dK upd_same x⟩
theorem freeze {F0 H0' : Hp} {Ad0 : List Addr} {v d} (g : Gr F0 Ad0 H0' F Ad H) (m : MemOk K F Ad M H) (h : DO K H0' F Ad H v d) : ∃ F', Gr F0 Ad0 H0' F' Ad H ∧ MemOk K F' Ad M H ∧ Den K F' Ad v d ∧ FLe F F' ∧ ∀ b, F b = none → v ≠ .ref b → F' b = none := by
  obtain ⟨a, rfl, n, na, n0, r⟩ := h
  obtain ⟨o, ho, _⟩ := r.obj
  have fl : FLe F (upd F a o) := fle_new n
  refine ⟨upd F a o, ⟨g.fle.trans fl, fun b ob hb ro h1 na1 => ?_, g.apre, g.keep, g.alive⟩, ⟨fun b u h => ?_, m.len, m.nd, fun k b e h1 h2 => ?_, m.tab⟩, ?_, fl, fun b hb ne => ?_⟩
  · rw [upd_ne (fun e => by rw [e, n0] at hb; cases hb)]; exact g.fnew b ob hb ro h1 na1
  · by_cases e : b = a
    · subst e; rw [upd_same] at h; cases h; exact ho
    · rw [upd_ne e] at h; exact m.sub b u h
  · obtain ⟨f, q⟩ := m.cel k b e h1 h2
    have ne : b ≠ a := fun z => na (z ▸ List.mem_of_getElem? h1)
    exact ⟨by rw [upd_ne ne]; exact f, q.mono fl (fun _ _ h => h) rfl⟩
  · cases r with
    | lst h r => rw [h] at ho; cases ho; exact .lst upd_same (r.mono fl fun _ _ h => h)
    | dK h r => rw [h] at ho; cases ho; exact .dK (by rw [upd_same]; rfl) (r.mono fl fun _ _ h => h)
    | dT h r => rw [h] at ho; cases ho; exact .dT (by rw [upd_same]; rfl) (r.mono fl fun _ _ h => h)
    | ins h r => rw [h] at ho; cases ho; exact .ins upd_same (r.mono fl fun _ _ h => h)
  · rw [upd_ne (fun e => ne (by rw [e]))]; exact hb
theorem SO.e {e : Expr} {f : EF} (h : SO X W e f) : SE X W e f := PE.imp h fun σ H Q ⟨N0, F, Ad, M, env, m, en, r⟩ => ⟨N0, F, Ad, M, env, m, en, by
  cases q : f env M with
  | ok d M1 =>
    rw [q] at r
    intro v F' Ad' H' g m' x
    obtain ⟨F2, g2, m2, x2, _⟩ := freeze g m' x
    exact r v F2 Ad' H' g2 m2 x2
  | exc x M1 => rw [q] at r; exact r
  | stuck => rw [q] at r; exact r⟩
theorem SE.b {e : Expr} {f : EF} (h : SE X W e f) : SB X W e f := PE.imp h fun σ H Q ⟨N0, F, Ad, M, env, m, en, r⟩ => ⟨N0, F, Ad, M, env, m, en, by
  cases q : f env M with
  | ok d M1 => rw [q] at r; exact fun v F' Ad' H' g m' x => r v F' Ad' H' g m' (.inl x)
  | exc x M1 => rw [q] at r; exact r
  | stuck => rw [q] at r; exact r⟩
def eCell (f : EF) : EF := fun env M => (f env M).bind fun d M1 => .ok (.cel M1.length) (M1 ++ [d])
theorem SO.cell {e : Expr} {f : EF} (h : SO X W e f) : SE X W e (eCell f) := PE.imp h fun σ H Q ⟨N0, F, Ad, M, env, m, en, r⟩ => ⟨N0, F, Ad, M, env, m, en, by
  unfold eCell at r
  cases q : f env M with
  | ok d M1 =>
    rw [q] at r
    rintro v F' Ad' H' g m' ⟨a, rfl, n, na, n0, x⟩
    obtain ⟨more, e1, e2⟩ := g.apre
    obtain ⟨o, ho, _⟩ := x.obj
    have pre : ∀ (k : Nat) (b : Addr), Ad'[k]? = some b → (Ad' ++ [a])[k]? = some b := fun k b h => by
      rw [List.getElem?_append_left (List.getElem?_eq_some_iff.mp h).1]; exact h
    have hl : (Ad' ++ [a])[M1.length]? = some a := by
      rw [← m'.len, List.getElem?_append_right (Nat.le_refl _)]; simp
    refine r (.ref a) F' (Ad' ++ [a]) H' ⟨g.fle, g.fnew, ⟨more ++ [a], by rw [e1, List.append_assoc], fun b hb => ?_⟩, g.keep, g.alive⟩ ⟨m'.sub, by simp [m'.len], ?_, fun k b d' h1 h2 => ?_, m'.tab⟩ (.cel hl)
    · rcases List.mem_append.mp hb with z | z
      · exact e2 b z
      · simp at z; subst z; exact n0
    · rw [List.nodup_append]
      exact ⟨m'.nd, by simp, fun x hx y hy => by simp at hy; subst hy; exact fun z => na (z ▸ hx)⟩
    · by_cases hk : k < Ad'.length
      · rw [List.getElem?_append_left hk] at h1
        rw [List.getElem?_append_left (by rw [← m'.len]; exact hk)] at h2
        obtain ⟨f1, q1⟩ := m'.cel k b d' h1 h2
        exact ⟨f1, q1.mono (FLe.refl _) pre rfl⟩
      · have hk2 : k = Ad'.length := by
          have := (List.getElem?_eq_some_iff.mp h1).1
          simp at this; omega
        subst hk2
        rw [m'.len, hl] at h1
        rw [m'.len] at h2
        simp at h1 h2
        subst h1; subst h2
        exact ⟨n, x.mono (FLe.refl _) pre rfl⟩
  | exc x M1 => rw [q] at r; exact r
  | stuck => rw [q] at r; exact r⟩
def eC (d : D) : EF := fun _ M => .ok d M
theorem se_int {i j pos} : SE X W (.Constant (.int i) j pos) (eC (.int i)) := PE.imp pe_int fun _ _ _ ⟨_, _, _, _, _, m, _, h⟩ => RP.here h m .int
theorem se_bl {i j pos} : SE X W (.Constant (.bool i) j pos) (eC (.bl i)) := PE.imp pe_bl fun _ _ _ ⟨_, _, _, _, _, m, _, h⟩ => RP.here h m .bl
theorem se_non {j pos} : SE X W (.Constant .none j pos) (eC .non) := PE.imp pe_non fun _ _ _ ⟨_, _, _, _, _, m, _, h⟩ => RP.here h m .non
theorem se_str {i j pos} : SE X W (.Constant (.str i) j pos) (eC (.str i)) := PE.imp pe_str fun _ _ _ ⟨_, _, _, _, _, m, _, h⟩ => RP.here h m .str
theorem se_globI {x : Str} {i : Int} {pos} (hg : Gl X x) (hm : ∃ t, X.mg x = some (.int i t)) (hd : (x == ("__debug__" : Str)) = false := by decide) : SE X W (.Name x pos) (eC (.int i)) := by
  obtain ⟨t, e⟩ := hm
  exact PE.imp (pe_glob (v := .int i) hg e ⟨t, rfl⟩ hd) fun _ _ _ ⟨_, _, _, _, _, m, _, h⟩ => RP.here h m .int
theorem se_globS {x : Str} {i : Str} {pos} (hg : Gl X x) (hm : ∃ t, X.mg x = some (.str i t)) (hd : (x == ("__debug__" : Str)) = false := by decide) : SE X W (.Name x pos) (eC (.str i)) := by
  obtain ⟨t, e⟩ := hm
  exact PE.imp (pe_glob (v := .str i) hg e ⟨t, rfl⟩ hd) fun _ _ _ ⟨_, _, _, _, _, m, _, h⟩ => RP.here h m .str
def eV (i : Nat) : EF := fun env M => match env[i]? with | some (.shr d) => .ok d M | _ => .stuck
def eVB (i : Nat) : EF := fun env M => match env[i]? with | some (.shr d) => .ok d M | some (.own d) => .ok d M | some (.slf d) => .ok d M | _ => .stuck
theorem se_var {i : Nat} {x : Str} {pos : Pos} (hN : X.N[i]? = some x) (hv : Vis X.env.scope x) (hd : (x == ("__debug__" : Str)) = false := by decide) (hcd : (x == ("__classdict__" : Str)) = false := by decide) : SE X W (.Name x pos) (eV i) :=
  PE.imp (pe_var hN hv hd hcd) fun σ H Q ⟨N0, F, Ad, M, env, m, en, r⟩ => by
    unfold eV at r
    split at r
    · rename_i d e
      obtain ⟨v, h1, h2⟩ := en.shr i d e
      exact ⟨v, h1, RP.here r m h2⟩
    · exact r.elim
theorem sb_var {i : Nat} {x : Str} {pos : Pos} (hN : X.N[i]? = some x) (hv : Vis X.env.scope x) (hd : (x == ("__debug__" : Str)) = false := by decide) (hcd : (x == ("__classdict__" : Str)) = false := by decide) : SB X W (.Name x pos) (eVB i) :=
  PE.imp (pe_var hN hv hd hcd) fun σ H Q ⟨N0, F, Ad, M, env, m, en, r⟩ => by
    unfold eVB at r
    split at r
    · rename_i d e
      obtain ⟨v, h1, h2⟩ := en.shr i d e
      exact ⟨v, h1, RP.here r m (.inl h2)⟩
    · rename_i d e
      obtain ⟨a, h1, h2, h3, h4, h5⟩ := en.own i d e
      exact ⟨.ref a, h1, RP.here r m (.inr ⟨a, rfl, h2, h3, h5⟩)⟩
    · rename_i d e
      obtain ⟨h0, h1, h2, h3, h4, h5, h6⟩ := en.slf i d e
      exact ⟨.ref _, h1, RP.here r m (.inr ⟨_, rfl, h2, h3, h5⟩)⟩
    · exact r.elim
def view (M : List D) : D → D
  | .cel n => (M[n]?).getD (.cel n)
  | d => d
def Op2 (X : Cx) (DR : DRel) (f : Value → Value → Sem Value) (g : D → D → List D → R) : Prop :=
  ∀ (pins : List (Addr × Obj)) (s : Shared) (σ : St) (H F : Hp) (Ad : List Addr) (M : List D) (E : XK) (x y : V) (v u : Value) (dx dy : D) (Q : VK), Inv X pins σ H s → MemOk X.K F Ad M H → RelV x v → RelV y u → DB X.K H F Ad H x dx → DB X.K H F Ad H y dy →
    RP X.K E DR F Ad H Q (g dx dy M) → wpAny (model X.prog X.w) X.A (f v u) (EP X pins σ Q) X.xe s
def e2 (g : D → D → List D → R) (a b : EF) : EF := fun env M => (a env M).bind fun x M1 => (b env M1).bind fun y M2 => g x y M2
theorem s_bin {DR : DRel} (dr : DRok DR) {op : Operator} {g : D → D → List D → R} {a b : Expr} {fa fb : EF} {pos : Pos} (ho : Op2 X DR (binaryOp op) g) (ha : SB X W a fa) (hb : SB X W b fb) : PE X (.BinOp a op b pos) (tG X.K W DR (e2 g fa fb)) := by
  refine ⟨fun pins s σ H Q I ⟨N0, F, Ad, M, env, m, en, r⟩ => ?_⟩
  refine wpAny_BinOp (binT (R := fun x y H2 => ∃ F2 Ad2 M2 dx dy, MemOk X.K F2 Ad2 M2 H2 ∧ DB X.K H2 F2 Ad2 H2 x dx ∧ DB X.K H2 F2 Ad2 H2 y dy ∧ RP X.K (fun c d H => W c d σ H) DR F2 Ad2 H2 Q (g dx dy M2)) ha hb I ?_ ?_)
  · refine tG_seq dr m en r fun d M1 v F1 Ad1 H1 g1 m1 en1 x1 r1 => ?_
    refine tG_seq dr m1 en1 r1 fun d2 M2 v2 F2 Ad2 H2 g2 m2 en2 x2 r2 => ?_
    exact ⟨F2, Ad2, M2, d, d2, m2, DB.gr g2 x1, x2, r2⟩
  · rintro v u s2 x y H2 I2 rx ry ⟨F2, Ad2, M2, dx, dy, m2, x1, x2, r2⟩
    exact ho pins s2 σ H2 F2 Ad2 M2 _ x y v u dx dy Q I2 m2 rx ry x1 x2 r2
theorem s_pc {DR : DRel} (dr : DRok DR) {op : CmpOp} {g : D → D → List D → R} {a b : Expr} {fa fb : EF} (ho : Op2 X DR (compareOp op) g) (ha : SB X W a fa) (hb : SB X W b fb) : PC X op a b (tG X.K W DR (e2 g fa fb)) := by
  refine ⟨fun pins s σ H Q I ⟨N0, F, Ad, M, env, m, en, r⟩ => ?_⟩
  refine binT (R := fun x y H2 => ∃ F2 Ad2 M2 dx dy, MemOk X.K F2 Ad2 M2 H2 ∧ DB X.K H2 F2 Ad2 H2 x dx ∧ DB X.K H2 F2 Ad2 H2 y dy ∧ RP X.K (fun c d H => W c d σ H) DR F2 Ad2 H2 Q (g dx dy M2)) ha hb I ?_ ?_
  · refine tG_seq dr m en r fun d M1 v F1 Ad1 H1 g1 m1 en1 x1 r1 => ?_
    refine tG_seq dr m1 en1 r1 fun d2 M2 v2 F2 Ad2 H2 g2 m2 en2 x2 r2 => ?_
    exact ⟨F2, Ad2, M2, d, d2, m2, DB.gr g2 x1, x2, r2⟩
  · rintro v u s2 x y H2 I2 rx ry ⟨F2, Ad2, M2, dx, dy, m2, x1, x2, r2⟩
    exact ho pins s2 σ H2 F2 Ad2 M2 _ x y v u dx dy Q I2 m2 rx ry x1 x2 r2
theorem s_cmp {DR : DRel} (dr : DRok DR) {op : CmpOp} {g : D → D → List D → R} {a b : Expr} {fa fb : EF} {pos : Pos} (ho : Op2 X DR (compareOp op) g) (ha : SB X W a fa) (hb : SB X W b fb) (hm : behindInMarks op b = false) : PE X (.Compare a [op] [b] pos) (tG X.K W DR (e2 g fa fb)) :=
  pe_cmp (s_pc dr ho ha hb) hm
def Op1 (X : Cx) (DR : DRel) (f : Value → Sem Value) (g : D → List D → R) : Prop :=
  ∀ (pins : List (Addr × Obj)) (s : Shared) (σ : St) (H F : Hp) (Ad : List Addr) (M : List D) (E : XK) (x : V) (v : Value) (dx : D) (Q : VK), Inv X pins σ H s → MemOk X.K F Ad M H → RelV x v → DB X.K H F Ad H x dx →
    RP X.K E DR F Ad H Q (g dx M) → wpAny (model X.prog X.w) X.A (f v) (EP X pins σ Q) X.xe s
def e1 (g : D → List D → R) (a : EF) : EF := fun env M => (a env M).bind g
theorem s_un {DR : DRel} (dr : DRok DR) {op : UnaryOp} {g : D → List D → R} {a : Expr} {fa : EF} {pos : Pos} (ho : Op1 X DR (unaryOp op) g) (ha : SB X W a fa) : PE X (.UnaryOp op a pos) (tG X.K W DR (e1 g fa)) := by
  refine ⟨fun pins s σ H Q I ⟨N0, F, Ad, M, env, m, en, r⟩ => ?_⟩
  refine UnaryOp_ (thn (ha.run pins s σ H _ I (tG_seq (Q' := fun v H1 => ∃ F1 Ad1 M1 d, MemOk X.K F1 Ad1 M1 H1 ∧ DB X.K H1 F1 Ad1 H1 v d ∧ RP X.K (fun c d H => W c d σ H) DR F1 Ad1 H1 Q (g d M1)) dr m en r fun d M1 v F1 Ad1 H1 g1 m1 en1 x1 r1 => ⟨F1, Ad1, M1, d, m1, x1, r1⟩)) fun u s1 ⟨x, H1, I1, rx, F1, Ad1, M1, d, m1, x1, r1⟩ => ?_)
  exact ho pins s1 σ H1 F1 Ad1 M1 _ x u d Q I1 m1 rx x1 r1
end
end MP
set_option maxRecDepth 100000
set_option maxHeartbeats 1000000
namespace MP
open PySem PySem.Spec PyProof.Rows L2
variable [TabsP] [ThkP]
section
variable {P : Program} {w : World} {A : Around} {E : Value → Shared → Prop} {s : Shared}
inductive HitT (A : Around) (s : Shared) (kb : List (List Key × Addr × Value)) : List (List Key × Addr × Value) → Bool → Prop
  | nil : HitT A s kb [] true
  | miss {p r} : (∀ (j : Nat) (q : Addr × Value), kb[j]? ≠ some (p.1, q)) → HitT A s kb (p :: r) false
  | no {p r} {j : Nat} {q : Addr × Value} : kb[j]? = some (p.1, q) → SeqAt.EqAt A s p.2.2 q.2 false → HitT A s kb (p :: r) false
  | yes {p r b} {j : Nat} {q : Addr × Value} : kb[j]? = some (p.1, q) → SeqAt.EqAt A s p.2.2 q.2 true → HitT A s kb r b → HitT A s kb (p :: r) b
end
end MP
set_option maxRecDepth 100000
set_option maxHeartbeats 1000000
namespace MP
open PySem PySem.Spec PyProof.Rows L2
variable [TabsP] [ThkP]
section
variable {X : Cx} {W : WX} {K : PySem.W.Frag} {E : XK} {DR : DRel} {N0 : Ent} {H0 F H : Hp} {Ad : List Addr} {M : List D} {env : EnvM} {σ : St} {Q : VK} {x : V}
def DV (K : PySem.W.Frag) (F : Hp) (Ad : List Addr) (H : Hp) (v : V) (d : D) : Prop := Den K F Ad v d ∨ ∃ a, v = .ref a ∧ Root K F Ad H a d
theorem DB.view (m : MemOk K F Ad M H) {d} (h : DB K H0 F Ad H x d) : DV K F Ad H x (view M d) := by
  cases d with
  | cel n =>
    rcases h with h | ⟨a, e, nn, na, r⟩
    · cases h with
      | @cel a _ h =>
        have hn : n < M.length := by rw [← m.len]; exact (List.getElem?_eq_some_iff.mp h).1
        have e2 : M[n]? = some M[n] := List.getElem?_eq_getElem hn
        obtain ⟨f, r⟩ := m.cel n a M[n] h e2
        show DV K F Ad H (.ref a) ((M[n]?).getD (.cel n))
        rw [e2]
        exact .inr ⟨a, rfl, r⟩
    · cases r
  | _ =>
    rcases h with h | ⟨a, e, nn, na, r⟩
    · exact .inl h
    · exact .inr ⟨a, e, r⟩
theorem DV.int {i} (h : DV K F Ad H x (.int i)) : x = .int i := by
  rcases h with h | ⟨a, e, r⟩
  · cases h; rfl
  · cases r
theorem DV.bl {i} (h : DV K F Ad H x (.bl i)) : x = .bl i := by
  rcases h with h | ⟨a, e, r⟩
  · cases h; rfl
  · cases r
theorem DV.str {i} (h : DV K F Ad H x (.str i)) : x = .str i := by
  rcases h with h | ⟨a, e, r⟩
  · cases h; rfl
  · cases r
theorem DV.non (h : DV K F Ad H x .non) : x = .non := by
  rcases h with h | ⟨a, e, r⟩
  · cases h; rfl
  · cases r
theorem sqT_sub (m : MemOk K F Ad M H) {a vs} (h : SqT K F a vs) : SqT K H a vs := by
  rcases h with (h | ⟨o, h⟩) | h
  · exact .inl (.inl (m.sub a _ h))
  · exact .inl (.inr ⟨o, m.sub a _ h⟩)
  · exact .inr h
theorem sqL_sub (m : MemOk K F Ad M H) {a vs} (h : SqL K F a vs) : SqL K H a vs := by
  rcases h with (h | ⟨o, h⟩) | h
  · exact .inl (.inl (m.sub a _ h))
  · exact .inl (.inr ⟨o, m.sub a _ h⟩)
  · exact .inr h
theorem DV.tup (m : MemOk K F Ad M H) {ds} (h : DV K F Ad H x (.tup ds)) : ∃ a vs, x = .ref a ∧ SqT K H a vs ∧ DenL K F Ad vs ds := by
  rcases h with h | ⟨a, e, r⟩
  · cases h with | tup h r => exact ⟨_, _, rfl, sqT_sub m h.sq, r⟩
  · cases r
theorem DV.ktp (m : MemOk K F Ad M H) {ds} (h : DV K F Ad H x (.ktp ds)) : ∃ a vs, x = .ref a ∧ SqT K H a vs ∧ DenL K F Ad vs ds := by
  rcases h with h | ⟨a, e, r⟩
  · cases h with | ktp h r => exact ⟨_, _, rfl, sqT_sub m h, r⟩
  · cases r
theorem DV.lst (m : MemOk K F Ad M H) {ds} (h : DV K F Ad H x (.lst ds)) : ∃ a vs, x = .ref a ∧ H a = some (.lst vs) ∧ DenL K F Ad vs ds := by
  rcases h with h | ⟨a, e, r⟩
  · cases h with | lst h r => exact ⟨_, _, rfl, m.sub _ _ h, r⟩
  · cases r with | lst h r => exact ⟨_, _, e, h, r⟩
theorem DV.scr (m : MemOk K F Ad M H) {ns} (h : DV K F Ad H x (.scr ns)) : ∃ a, x = .ref a ∧ SqL K H a (ns.map V.int) := by
  rcases h with h | ⟨a, e, r⟩
  · cases h with | scr h => exact ⟨_, rfl, sqL_sub m h⟩
  · cases r
theorem DV.ins (m : MemOk K F Ad M H) {c ds} (h : DV K F Ad H x (.ins c ds)) : ∃ a dx vs, x = .ref a ∧ H a = some (.ins (He.ga K c) dx vs) ∧ DenF K F Ad vs ds := by
  rcases h with h | ⟨a, e, r⟩
  · cases h with | ins h r => exact ⟨_, _, _, rfl, m.sub _ _ h, r⟩
  · cases r with | ins h r => exact ⟨_, _, _, e, h, r⟩
theorem DV.den {d} (h : DV K F Ad H x d) (n : ∀ a, ¬ Root K F Ad H a d) : Den K F Ad x d := by
  rcases h with h | ⟨a, e, r⟩
  · exact h
  · exact absurd r (n a)
def oAdd (x y : D) (M : List D) : R := match view M x, view M y with
  | .int i, .int j => .ok (.int (i + j)) M
  | .str a, .str b => if a.length + b.length ≤ sizeLine then .ok (.str (a ++ b)) M else .stuck
  | .tup a, .tup b => if a.length + b.length ≤ sizeLine then .ok (.tup (a ++ b)) M else .stuck
  | .lst a, .lst b => if a.length + b.length ≤ sizeLine then .ok (.lst (a ++ b)) M else .stuck
  | _, _ => .stuck
theorem op2_add : Op2 X (DE X.K) (binaryOp .Add) oAdd := by
  intro pins s σ H F Ad M E x y v u dx dy Q I m rx ry hx hy r
  have ax := DB.view m hx
  have ay := DB.view m hy
  unfold oAdd at r
  revert r ax ay
  generalize view M dx = ex
  generalize view M dy = ey
  intro r ax ay
  split at r
  · exact op_add pins s σ H x y v u Q I rx ry ⟨_, _, ax.int, ay.int, RP.here r m .int⟩
  · rename_i a b
    split at r
    · rename_i h; exact op_add_str pins s σ H x y v u Q I rx ry ⟨_, _, ax.str, ay.str, h, RP.here r m .str⟩
    · exact r.elim
  · rename_i a b
    split at r
    · rename_i h
      obtain ⟨p, vs, rfl, h1, d1⟩ := ax.tup m
      obtain ⟨q, ws, rfl, h2, d2⟩ := ay.tup m
      have l1 := d1.length
      have l2 := d2.length
      refine op_catA pins s σ H _ _ v u Q I rx ry ⟨p, q, vs, ws, rfl, rfl, h1, h2, by omega, fun e => ?_, fun e e2 => ?_, fun e e2 c hc => ?_⟩
      · subst e; cases d1; exact RP.here r m (ay.den fun _ h => nomatch h)
      · subst e2; cases d2; rw [List.append_nil] at r; exact RP.here r m (ax.den fun _ h => nomatch h)
      · exact RP.newTup r m (d1.append d2) hc
    · exact r.elim
  · rename_i a b
    split at r
    · rename_i h
      obtain ⟨p, vs, rfl, h1, d1⟩ := ax.lst m
      obtain ⟨q, ws, rfl, h2, d2⟩ := ay.lst m
      have l1 := d1.length
      have l2 := d2.length
      refine op_cat pins s σ H _ _ v u Q I rx ry ⟨p, q, vs, ws, rfl, rfl, h1, h2, by omega, fun c hc => RP.newLst r m (d1.append d2) hc⟩
    · exact r.elim
  · exact r.elim
theorem op2_int {f : Value → Value → Sem Value} {C : Int → Int → Prop} [DecidableRel C] {g : Int → Int → Int} (h : OpR X f (rI C fun i j => .int (g i j))) :
    Op2 X (DE X.K) f (fun x y M => match view M x, view M y with | .int i, .int j => if C i j then .ok (.int (g i j)) M else .stuck | _, _ => .stuck) := by
  intro pins s σ H F Ad M E x y v u dx dy Q I m rx ry hx hy r
  have ax := DB.view m hx
  have ay := DB.view m hy
  dsimp only at r
  revert r ax ay
  generalize view M dx = ex
  generalize view M dy = ey
  intro r ax ay
  split at r
  · rename_i i j
    split at r
    · rename_i hc; exact h pins s σ H x y v u Q I rx ry ⟨i, j, ax.int, ay.int, hc, RP.here r m .int⟩
    · exact r.elim
  · exact r.elim
def oSub (x y : D) (M : List D) : R := match view M x, view M y with | .int i, .int j => .ok (.int (i - j)) M | _, _ => .stuck
theorem op2_sub : Op2 X (DE X.K) (binaryOp .Sub) oSub := by
  intro pins s σ H F Ad M E x y v u dx dy Q I m rx ry hx hy r
  have ax := DB.view m hx
  have ay := DB.view m hy
  unfold oSub at r
  revert r ax ay
  generalize view M dx = ex
  generalize view M dy = ey
  intro r ax ay
  split at r
  · exact op_sub pins s σ H x y v u Q I rx ry ⟨_, _, ax.int, ay.int, RP.here r m .int⟩
  · exact r.elim
def CMulB (i j : Int) : Prop := i.natAbs / 9223372036854775808 = 0 ∨ j.natAbs / 9223372036854775808 = 0
instance : DecidableRel CMulB := fun i j => by unfold CMulB; exact inferInstance
theorem small_of {i : Int} (h : i.natAbs / 9223372036854775808 = 0) : -(2 ^ 64) < i ∧ i < 2 ^ 64 := by
  have h1 : i.natAbs < 9223372036854775808 := (Nat.div_eq_zero_iff_lt (by decide)).mp h
  have e : (2 : Int) ^ 64 = 18446744073709551616 := by decide
  rw [e]; omega
theorem CMulB.c {i j : Int} (h : CMulB i j) : CMul i j := by
  rcases h with h | h
  · exact .inl (small_of h)
  · exact .inr (small_of h)
instance : DecidableRel CDivW := fun i j => by unfold CDivW; exact inferInstance
instance : DecidableRel CPow := fun i j => by unfold CPow; exact inferInstance
def oMul (x y : D) (M : List D) : R := match view M x, view M y with | .int i, .int j => if CMulB i j then .ok (.int (i * j)) M else .stuck | _, _ => .stuck
def oDiv (x y : D) (M : List D) : R := match view M x, view M y with | .int i, .int j => if CDivW i j then .ok (.int (i / j)) M else .stuck | _, _ => .stuck
def oMod (x y : D) (M : List D) : R := match view M x, view M y with | .int i, .int j => if 0 < j then .ok (.int (i % j)) M else .stuck | _, _ => .stuck
def oPow (x y : D) (M : List D) : R := match view M x, view M y with | .int i, .int j => if CPow i j then .ok (.int (i ^ j.toNat)) M else .stuck | _, _ => .stuck
theorem op2_mul : Op2 X (DE X.K) (binaryOp .Mult) oMul := op2_int (C := CMulB) fun pins s σ H x y v u Q I rx ry ⟨i, j, e1, e2, hc, q⟩ => op_mul pins s σ H x y v u Q I rx ry ⟨i, j, e1, e2, hc.c, q⟩
theorem op2_div : Op2 X (DE X.K) (binaryOp .FloorDiv) oDiv := op2_int op_fdivW
theorem op2_mod : Op2 X (DE X.K) (binaryOp .Mod) oMod := op2_int (C := fun _ j => 0 < j) op_mod
theorem op2_pow : Op2 X (DE X.K) (binaryOp .Pow) oPow := op2_int op_pow
def oNeg (x : D) (M : List D) : R := match view M x with | .int i => .ok (.int (-i)) M | _ => .stuck
theorem op1_neg : Op1 X (DE X.K) (unaryOp .USub) oNeg := by
  intro pins s σ H F Ad M E x v dx Q I m rx hx r
  have ax := DB.view m hx
  unfold oNeg at r
  revert r ax
  generalize view M dx = ex
  intro r ax
  split at r
  · exact un_neg pins s σ H x v Q I rx ⟨_, ax.int, RP.here r m .int⟩
  · exact r.elim
def intsOf : List D → Option (List Int)
  | [] => some []
  | .int i :: r => (intsOf r).map (i :: ·)
  | _ :: _ => none
theorem DenL.ints : ∀ {vs ds ns}, DenL K F Ad vs ds → intsOf ds = some ns → vs = ns.map V.int
  | _, _, ns, .nil, e => by simp [intsOf] at e; subst e; rfl
  | _, _, ns, .cons (d := d) h r, e => by
    cases d with
    | int i =>
      simp only [intsOf, Option.map_eq_some_iff] at e
      obtain ⟨ms, e1, rfl⟩ := e
      cases h
      simp [DenL.ints r e1]
    | _ => simp [intsOf] at e
def oLt (x y : D) (M : List D) : R := match view M x, view M y with
  | .int i, .int j => .ok (.bl (decide (i < j))) M
  | .tup a, .tup b => (match intsOf a, intsOf b with
    | some ns, some ms => .ok (.bl (HT.lexLt ns ms)) M
    | _, _ => .stuck)
  | _, _ => .stuck
theorem op2_lt (hu : X.A.units < cLine) : Op2 X (DE X.K) (compareOp .Lt) oLt := by
  intro pins s σ H F Ad M E x y v u dx dy Q I m rx ry hx hy r
  have ax := DB.view m hx
  have ay := DB.view m hy
  unfold oLt at r
  revert r ax ay
  generalize view M dx = ex
  generalize view M dy = ey
  intro r ax ay
  split at r
  · exact op_lt pins s σ H x y v u Q I rx ry ⟨_, _, ax.int, ay.int, RP.here r m .bl⟩
  · rename_i a b
    split at r
    · rename_i ns ms e1 e2
      obtain ⟨p, vs, rfl, h1, d1⟩ := ax.tup m
      obtain ⟨q, ws, rfl, h2, d2⟩ := ay.tup m
      rw [d1.ints e1] at h1
      rw [d2.ints e2] at h2
      exact op_ltT hu pins s σ H _ _ v u Q I rx ry ⟨p, q, ns, ms, rfl, rfl, h1, h2, RP.here r m .bl⟩
    · exact r.elim
  · exact r.elim
theorem op2_intB {f : Value → Value → Sem Value} {g : Int → Int → Bool} (h : OpR X f (rI0 fun i j => .bl (g i j))) :
    Op2 X (DE X.K) f (fun x y M => match view M x, view M y with | .int i, .int j => .ok (.bl (g i j)) M | _, _ => .stuck) := by
  intro pins s σ H F Ad M E x y v u dx dy Q I m rx ry hx hy r
  have ax := DB.view m hx
  have ay := DB.view m hy
  dsimp only at r
  revert r ax ay
  generalize view M dx = ex
  generalize view M dy = ey
  intro r ax ay
  split at r
  · exact h pins s σ H x y v u Q I rx ry ⟨_, _, ax.int, ay.int, RP.here r m .bl⟩
  · exact r.elim
def oLe (x y : D) (M : List D) : R := match view M x, view M y with | .int i, .int j => .ok (.bl (decide (i ≤ j))) M | _, _ => .stuck
def oGt (x y : D) (M : List D) : R := match view M x, view M y with | .int i, .int j => .ok (.bl (decide (j < i))) M | _, _ => .stuck
def oGe (x y : D) (M : List D) : R := match view M x, view M y with | .int i, .int j => .ok (.bl (decide (j ≤ i))) M | _, _ => .stuck
theorem op2_le : Op2 X (DE X.K) (compareOp .LtE) oLe := op2_intB op_le
theorem op2_gt : Op2 X (DE X.K) (compareOp .Gt) oGt := op2_intB op_gt
theorem op2_ge : Op2 X (DE X.K) (compareOp .GtE) oGe := op2_intB op_ge
mutual
def D.pd : D → Option PyData
  | .non => some .none
  | .bl b => some (.bool b)
  | .int i => some (.int i)
  | .str s => some (.str s)
  | .tup ds => (D.pdL ds).map .tuple
  | .lst ds => (D.pdL ds).map .list
  | _ => none
def D.pdL : List D → Option (List PyData)
  | [] => some []
  | d :: ds => match D.pd d, D.pdL ds with
    | some p, some ps => some (p :: ps)
    | _, _ => none
end
section
variable {M : List D}
mutual
theorem Den.dp (m : MemOk K F Ad M H) : ∀ {v d p}, Den K F Ad v d → d.pd = some p → Dp K H v p
  | _, _, p, .non, e => by simp [D.pd] at e; subst e; exact .non
  | _, _, p, .bl, e => by simp [D.pd] at e; subst e; exact .bl _
  | _, _, p, .int, e => by simp [D.pd] at e; subst e; exact .int _
  | _, _, p, .str, e => by simp [D.pd] at e; subst e; exact .str _
  | _, _, p, .tup h r, e => by
    simp only [D.pd, Option.map_eq_some_iff] at e
    obtain ⟨ps, e1, rfl⟩ := e
    exact .tup (sqT_sub m h.sq) (r.dp m e1)
  | _, _, p, .lst h r, e => by
    simp only [D.pd, Option.map_eq_some_iff] at e
    obtain ⟨ps, e1, rfl⟩ := e
    exact .lst (SqL.of (m.sub _ _ h)) (r.dp m e1)
  | _, _, p, .scr _, e => by simp [D.pd] at e
  | _, _, p, .ktp _ _, e => by simp [D.pd] at e
  | _, _, p, .dK _ _, e => by simp [D.pd] at e
  | _, _, p, .dT _ _, e => by simp [D.pd] at e
  | _, _, p, .ins _ _, e => by simp [D.pd] at e
  | _, _, p, .cel _, e => by simp [D.pd] at e
theorem DenL.dp (m : MemOk K F Ad M H) : ∀ {vs ds ps}, DenL K F Ad vs ds → D.pdL ds = some ps → DpAll K H vs ps
  | _, _, ps, .nil, e => by simp [D.pdL] at e; subst e; exact .nil
  | _, _, ps, .cons h r, e => by
    simp only [D.pdL] at e
    split at e
    · rename_i p qs e1 e2
      cases e
      exact .cons (h.dp m e1) (r.dp m e2)
    · cases e
end
theorem DV.dp (m : MemOk K F Ad M H) {v d p} (h : DV K F Ad H v d) (e : d.pd = some p) : Dp K H v p := by
  rcases h with h | ⟨a, rfl, r⟩
  · exact h.dp m e
  · cases r with
    | lst h r =>
      simp only [D.pd, Option.map_eq_some_iff] at e
      obtain ⟨ps, e1, rfl⟩ := e
      exact .lst (SqL.of h) (r.dp m e1)
    | dK => simp [D.pd] at e
    | dT => simp [D.pd] at e
    | ins => simp [D.pd] at e
end
def eqS : D → D → Option Bool
  | .int i, .int j => some (i == j)
  | .str i, .str j => some (i == j)
  | .bl i, .bl j => some (i == j)
  | .non, .non => some true
  | .non, .int _ => some false
  | .int _, .non => some false
  | .str _, .non => some false
  | .non, .str _ => some false
  | .non, .bl _ => some false
  | .bl _, .non => some false
  | .int _, .str _ => some false
  | .str _, .int _ => some false
  | .bl _, .str _ => some false
  | .str _, .bl _ => some false
  | _, _ => none
def eqP (x y : D) : Option Bool := match x.pd, y.pd with
  | some p, some q => if SeqAt.shaped p = true ∧ SeqAt.shaped q = true then some (PyData.eqv p q) else none
  | _, _ => none
def eqD (x y : D) : Option Bool := match eqS x y with
  | some b => some b
  | none => eqP x y
theorem eqS_ok {dx dy : D} {x y : V} {b : Bool} (h : eqS dx dy = some b) (ax : DV K F Ad H x dx) (ay : DV K F Ad H y dy) : scal x y = true ∧ decide (x = y) = b := by
  unfold eqS at h
  split at h
  · cases h; rw [ax.int, ay.int]; exact ⟨rfl, dec_int⟩
  · cases h; rw [ax.str, ay.str]; exact ⟨rfl, dec_str⟩
  · cases h; rw [ax.bl, ay.bl]; exact ⟨rfl, dec_bl⟩
  · cases h; rw [ax.non, ay.non]; exact ⟨rfl, by simp⟩
  · cases h; rw [ax.non, ay.int]; exact ⟨rfl, by simp⟩
  · cases h; rw [ax.int, ay.non]; exact ⟨rfl, by simp⟩
  · cases h; rw [ax.str, ay.non]; exact ⟨rfl, by simp⟩
  · cases h; rw [ax.non, ay.str]; exact ⟨rfl, by simp⟩
  · cases h; rw [ax.non, ay.bl]; exact ⟨rfl, by simp⟩
  · cases h; rw [ax.bl, ay.non]; exact ⟨rfl, by simp⟩
  · cases h; rw [ax.int, ay.str]; exact ⟨rfl, by simp⟩
  · cases h; rw [ax.str, ay.int]; exact ⟨rfl, by simp⟩
  · cases h; rw [ax.bl, ay.str]; exact ⟨rfl, by simp⟩
  · cases h; rw [ax.str, ay.bl]; exact ⟨rfl, by simp⟩
  · cases h
theorem eqP_ok {x y : D} {b : Bool} (h : eqP x y = some b) : ∃ p q, x.pd = some p ∧ y.pd = some q ∧ SeqAt.shaped p = true ∧ SeqAt.shaped q = true ∧ PyData.eqv p q = b := by
  unfold eqP at h
  split at h
  · split at h
    · rename_i h1
      exact ⟨_, _, ‹_›, ‹_›, h1.1, h1.2, Option.some.inj h⟩
    · cases h
  · cases h
def oEq (x y : D) (M : List D) : R := match eqD (view M x) (view M y) with | some b => .ok (.bl b) M | none => .stuck
def oNe (x y : D) (M : List D) : R := match eqD (view M x) (view M y) with | some b => .ok (.bl !b) M | none => .stuck
theorem op2_eq (hu : X.A.units + 64 < cLine) : Op2 X (DE X.K) (compareOp .Eq) oEq := by
  intro pins s σ H F Ad M E x y v u dx dy Q I m rx ry hx hy r
  have ax := DB.view m hx
  have ay := DB.view m hy
  unfold oEq eqD at r
  split at r
  · rename_i b e
    split at e
    · rename_i b' e'
      cases e
      obtain ⟨s1, s2⟩ := eqS_ok e' ax ay
      exact op_eq pins s σ H x y v u Q I rx ry ⟨s1, by rw [s2]; exact RP.here r m .bl⟩
    · obtain ⟨p, q, e1, e2, s1, s2, rfl⟩ := eqP_ok e
      exact op_eqD hu pins s σ H x y v u Q I rx ry ⟨p, q, ax.dp m e1, ay.dp m e2, s1, s2, RP.here r m .bl⟩
  · exact r.elim
theorem op2_ne (hu : X.A.units + 64 < cLine) : Op2 X (DE X.K) (compareOp .NotEq) oNe := by
  intro pins s σ H F Ad M E x y v u dx dy Q I m rx ry hx hy r
  have ax := DB.view m hx
  have ay := DB.view m hy
  unfold oNe eqD at r
  split at r
  · rename_i b e
    split at e
    · rename_i b' e'
      cases e
      obtain ⟨s1, s2⟩ := eqS_ok e' ax ay
      exact op_ne pins s σ H x y v u Q I rx ry ⟨s1, by rw [s2]; exact RP.here r m .bl⟩
    · obtain ⟨p, q, e1, e2, s1, s2, rfl⟩ := eqP_ok e
      exact op_neD hu pins s σ H x y v u Q I rx ry ⟨p, q, ax.dp m e1, ay.dp m e2, s1, s2, RP.here r m .bl⟩
  · exact r.elim
def D.isN : D → Bool | .non => true | _ => false
def oIs (x y : D) (M : List D) : R := match y with | .non => .ok (.bl x.isN) M | _ => .stuck
def oIsnt (x y : D) (M : List D) : R := match y with | .non => .ok (.bl !x.isN) M | _ => .stuck
theorem DB.non (h : DB K H0 F Ad H x .non) : x = .non := by
  rcases h with h | ⟨a, e, n, na, q⟩
  · cases h; rfl
  · cases q
theorem DB.isN {d} (h : DB K H0 F Ad H x d) : decide (x = .non) = d.isN := by
  rcases h with h | ⟨a, e, n, na, r⟩
  · cases h <;> simp [D.isN]
  · subst e; cases r <;> simp [D.isN]
theorem op2_isN : Op2 X (DE X.K) (compareOp .Is) oIs := by
  intro pins s σ H F Ad M E x y v u dx dy Q I m rx ry hx hy r
  unfold oIs at r
  split at r
  · exact op_isN pins s σ H x y v u Q I rx ry ⟨hy.non, by rw [hx.isN]; exact RP.here r m .bl⟩
  · exact r.elim
theorem op2_notN : Op2 X (DE X.K) (compareOp .IsNot) oIsnt := by
  intro pins s σ H F Ad M E x y v u dx dy Q I m rx ry hx hy r
  unfold oIsnt at r
  split at r
  · exact op_notN pins s σ H x y v u Q I rx ry ⟨hy.non, by rw [hx.isN]; exact RP.here r m .bl⟩
  · exact r.elim
end
end MP
set_option maxRecDepth 100000
set_option maxHeartbeats 1000000
namespace MP
open PySem PySem.Spec PyProof.Rows L2
variable [TabsP] [ThkP]
def RPT (K : PySem.W.Frag) (E : XK) (F : Hp) (Ad : List Addr) (H : Hp) (Q : Bool → Hp → Prop) : R → Prop
  | .ok (.bl b) M' => ∀ F' Ad' H', Gr F Ad H F' Ad' H' → MemOk K F' Ad' M' H' → Q b H'
  | .ok _ _ => False
  | .exc x M' => ∀ cls dx F' Ad' H', Gr F Ad H F' Ad' H' → MemOk K F' Ad' M' H' → XOk K F' Ad' H' x cls dx → E cls dx H'
  | .stuck => False
def tT (K : PySem.W.Frag) (W : WX) (f : EF) : TT := fun σ H Q => ∃ N0 F Ad M env, MemOk K F Ad M H ∧ EnvOk K N0 F Ad H σ env ∧ RPT K (fun c d H => W c d σ H) F Ad H Q (f env M)
abbrev ST (X : Cx) (W : WX) (e : Expr) (f : EF) : Prop := PT X e (tT X.K W f)
abbrev SW (X : Cx) (W : WX) (e : Expr) (f : EF) : Prop := PW X e (tT X.K W f)
def eAnd (a b : EF) : EF := fun env M => (a env M).bind fun x M1 => match x with | .bl true => b env M1 | .bl false => .ok (.bl false) M1 | _ => .stuck
def eOr (a b : EF) : EF := fun env M => (a env M).bind fun x M1 => match x with | .bl true => .ok (.bl true) M1 | .bl false => b env M1 | _ => .stuck
def eNot (a : EF) : EF := fun env M => (a env M).bind fun x M1 => match x with | .bl c => .ok (.bl !c) M1 | _ => .stuck
def eIf (c a b : EF) : EF := fun env M => (c env M).bind fun x M1 => match x with | .bl true => a env M1 | .bl false => b env M1 | _ => .stuck
section
variable {X : Cx} {W : WX} {K : PySem.W.Frag} {E : XK} {DR : DRel} {N0 : Ent} {H0 F F1 H H1 : Hp} {Ad Ad1 : List Addr} {M : List D} {env : EnvM} {σ : St} {Q : VK} {x : V}
theorem RPT.gr {Q : Bool → Hp → Prop} {r : R} (h : RPT K E F Ad H Q r) (g : Gr F Ad H F1 Ad1 H1) : RPT K E F1 Ad1 H1 Q r := by
  cases r with
  | ok d M => cases d with
    | bl b => exact fun F' Ad' H' g' m => h F' Ad' H' (g.trans g') m
    | _ => exact h
  | exc x M => exact fun c dx F' Ad' H' g' m z => h c dx F' Ad' H' (g.trans g') m z
  | stuck => exact h
theorem RPT.here {Q : Bool → Hp → Prop} {b : Bool} (h : RPT K E F Ad H Q (.ok (.bl b) M)) (m : MemOk K F Ad M H) : Q b H := h F Ad H Gr.refl m
theorem tT_seqT {f : EF} {k : D → List D → R} {Q Q' : Bool → Hp → Prop} (m : MemOk K F Ad M H) (e : EnvOk K N0 F Ad H σ env)
    (h : RPT K (fun c d H => W c d σ H) F Ad H Q ((f env M).bind k)) (hn : ∀ d M1, (∀ b, d ≠ .bl b) → k d M1 = .stuck)
    (hq : ∀ b M1 F1 Ad1 H1, Gr F Ad H F1 Ad1 H1 → MemOk K F1 Ad1 M1 H1 → EnvOk K N0 F1 Ad1 H1 σ env → RPT K (fun c d H => W c d σ H) F1 Ad1 H1 Q (k (.bl b) M1) → Q' b H1) : tT K W f σ H Q' := by
  refine ⟨N0, F, Ad, M, env, m, e, ?_⟩
  cases q : f env M with
  | ok d M1 =>
    rw [q] at h
    cases d with
    | bl b => exact fun F' Ad' H' g m' => hq b M1 F' Ad' H' g m' (e.gr g) (RPT.gr h g)
    | _ =>
      rw [R.bind_ok, hn _ M1] at h
      · exact h
      · intro b z; cases z
  | exc x M1 => rw [q] at h; exact h
  | stuck => rw [q] at h; exact h
theorem tT_seqG {f : EF} {k : D → List D → R} {Q : VK} {Q' : Bool → Hp → Prop} (dr : DRok DR) (m : MemOk K F Ad M H) (e : EnvOk K N0 F Ad H σ env)
    (h : RP K (fun c d H => W c d σ H) DR F Ad H Q ((f env M).bind k)) (hn : ∀ d M1, (∀ b, d ≠ .bl b) → k d M1 = .stuck)
    (hq : ∀ b M1 F1 Ad1 H1, Gr F Ad H F1 Ad1 H1 → MemOk K F1 Ad1 M1 H1 → EnvOk K N0 F1 Ad1 H1 σ env → RP K (fun c d H => W c d σ H) DR F1 Ad1 H1 Q (k (.bl b) M1) → Q' b H1) : tT K W f σ H Q' := by
  refine ⟨N0, F, Ad, M, env, m, e, ?_⟩
  cases q : f env M with
  | ok d M1 =>
    rw [q] at h
    cases d with
    | bl b => exact fun F' Ad' H' g m' => hq b M1 F' Ad' H' g m' (e.gr g) (RP.gr dr h g)
    | _ =>
      rw [R.bind_ok, hn _ M1] at h
      · exact h
      · intro b z; cases z
  | exc x M1 => rw [q] at h; exact h
  | stuck => rw [q] at h; exact h
variable {a b c : Expr} {fa fb fc : EF} {pos : Pos} {rest : List Expr}
theorem st_val (h : SE X W a fa) (he : ∀ whole, isTrue a X.env whole = (do let v ← whole; standAt a.pos; holding [v] (truthy v)) := by intro _; rfl) : ST X W a fa :=
  PT.imp (pt_val h he) fun σ H Q ⟨N0, F, Ad, M, env, m, en, r⟩ => ⟨N0, F, Ad, M, env, m, en, by
    cases q : fa env M with
    | ok d M1 =>
      rw [q] at r
      intro v F' Ad' H' g m' x
      cases d with
      | bl b => cases x; exact ⟨b, rfl, r F' Ad' H' g m'⟩
      | _ => exact r.elim
    | exc x M1 => rw [q] at r; exact r
    | stuck => rw [q] at r; exact r⟩
theorem st_cmp {op : CmpOp} {g : D → D → List D → R} (ho : Op2 X (DE X.K) (compareOp op) g) (ha : SB X W a fa) (hb : SB X W b fb) (hm : behindInMarks op b = false) : ST X W (.Compare a [op] [b] pos) (e2 g fa fb) :=
  PT.imp (pt_cmp (s_pc DE.ok ho ha hb) hm) fun σ H Q ⟨N0, F, Ad, M, env, m, en, r⟩ => ⟨N0, F, Ad, M, env, m, en, by
    cases q : e2 g fa fb env M with
    | ok d M1 =>
      rw [q] at r
      intro v F' Ad' H' g m' x
      cases d with
      | bl b => cases x; exact ⟨b, rfl, r F' Ad' H' g m'⟩
      | _ => exact r.elim
    | exc x M1 => rw [q] at r; exact r
    | stuck => rw [q] at r; exact r⟩
theorem sw_and1 (h : ST X W a fa) : SW X W (.BoolOp .And [a] pos) fa := pw_and1 h
theorem sw_or1 (h : ST X W a fa) : SW X W (.BoolOp .Or [a] pos) fa := pw_or1 h
theorem sw_and (ha : ST X W a fa) (hb : SW X W (.BoolOp .And (b :: rest) pos) fb) : SW X W (.BoolOp .And (a :: b :: rest) pos) (eAnd fa fb) :=
  PW.imp (pw_and ha hb) fun σ H Q ⟨N0, F, Ad, M, env, m, en, r⟩ => tT_seqT m en r (fun d M1 hd => by cases d <;> first | rfl | exact absurd rfl (hd _)) fun b M1 F1 Ad1 H1 g1 m1 en1 r1 => by
    cases b with
    | true => exact ⟨N0, F1, Ad1, M1, env, m1, en1, r1⟩
    | false => exact RPT.here r1 m1
theorem sw_or (ha : ST X W a fa) (hb : SW X W (.BoolOp .Or (b :: rest) pos) fb) : SW X W (.BoolOp .Or (a :: b :: rest) pos) (eOr fa fb) :=
  PW.imp (pw_or ha hb) fun σ H Q ⟨N0, F, Ad, M, env, m, en, r⟩ => tT_seqT m en r (fun d M1 hd => by cases d <;> first | rfl | exact absurd rfl (hd _)) fun b M1 F1 Ad1 H1 g1 m1 en1 r1 => by
    cases b with
    | true => exact RPT.here r1 m1
    | false => exact ⟨N0, F1, Ad1, M1, env, m1, en1, r1⟩
theorem st_w (h : SW X W a fa) : ST X W a fa := PW.pt h
theorem st_not (ha : ST X W a fa) : ST X W (.UnaryOp .Not a pos) (eNot fa) :=
  PT.imp (pt_not ha) fun σ H Q ⟨N0, F, Ad, M, env, m, en, r⟩ => tT_seqT m en r (fun d M1 hd => by cases d <;> first | rfl | exact absurd rfl (hd _)) fun b M1 F1 Ad1 H1 g1 m1 en1 r1 => RPT.here r1 m1
theorem se_one {op} (h : PE X a (tG X.K W DR fa)) : PE X (.BoolOp op [a] pos) (tG X.K W DR fa) := pe_one h
theorem se_and (ha : SE X W a fa) (hb : SE X W (.BoolOp .And (b :: rest) pos) fb) : SE X W (.BoolOp .And (a :: b :: rest) pos) (eAnd fa fb) :=
  PE.imp (pe_and ha hb) fun σ H Q ⟨N0, F, Ad, M, env, m, en, r⟩ => tG_seq DE.ok m en r fun d M1 v F1 Ad1 H1 g1 m1 en1 x1 r1 => by
    cases d with
    | bl b =>
      cases x1
      refine ⟨b, rfl, ?_⟩
      cases b with
      | true => exact ⟨N0, F1, Ad1, M1, env, m1, en1, r1⟩
      | false => exact RP.here r1 m1 .bl
    | _ => exact r1.elim
theorem se_or (ha : SE X W a fa) (hb : SE X W (.BoolOp .Or (b :: rest) pos) fb) : SE X W (.BoolOp .Or (a :: b :: rest) pos) (eOr fa fb) :=
  PE.imp (pe_or ha hb) fun σ H Q ⟨N0, F, Ad, M, env, m, en, r⟩ => tG_seq DE.ok m en r fun d M1 v F1 Ad1 H1 g1 m1 en1 x1 r1 => by
    cases d with
    | bl b =>
      cases x1
      refine ⟨b, rfl, ?_⟩
      cases b with
      | true => exact RP.here r1 m1 .bl
      | false => exact ⟨N0, F1, Ad1, M1, env, m1, en1, r1⟩
    | _ => exact r1.elim
theorem se_not (ha : SE X W a fa) : SE X W (.UnaryOp .Not a pos) (eNot fa) :=
  PE.imp (pe_not ha) fun σ H Q ⟨N0, F, Ad, M, env, m, en, r⟩ => tG_seq DE.ok m en r fun d M1 v F1 Ad1 H1 g1 m1 en1 x1 r1 => by
    cases d with
    | bl b => cases x1; exact ⟨b, rfl, RP.here r1 m1 .bl⟩
    | _ => exact r1.elim
theorem s_if (dr : DRok DR) (hc : ST X W c fc) (ha : PE X a (tG X.K W DR fa)) (hb : PE X b (tG X.K W DR fb)) : PE X (.IfExp c a b pos) (tG X.K W DR (eIf fc fa fb)) :=
  PE.imp (pe_ifExp hc ha hb) fun σ H Q ⟨N0, F, Ad, M, env, m, en, r⟩ => tT_seqG dr m en r (fun d M1 hd => by cases d <;> first | rfl | exact absurd rfl (hd _)) fun b M1 F1 Ad1 H1 g1 m1 en1 r1 => by
    cases b with
    | true => exact ⟨N0, F1, Ad1, M1, env, m1, en1, r1⟩
    | false => exact ⟨N0, F1, Ad1, M1, env, m1, en1, r1⟩
def rOp (X : Cx) (E : XK) (DR : DRel) (g : D → D → List D → R) : R2 := fun x y H Q => ∃ F Ad M dx dy, MemOk X.K F Ad M H ∧ DB X.K H F Ad H x dx ∧ DB X.K H F Ad H y dy ∧ RP X.K E DR F Ad H Q (g dx dy M)
theorem Op2.opR {f : Value → Value → Sem Value} {g : D → D → List D → R} (h : Op2 X DR f g) : OpR X f (rOp X E DR g) := fun pins s σ H x y v u Q I rx ry ⟨F, Ad, M, dx, dy, m, hx, hy, r⟩ => h pins s σ H F Ad M E x y v u dx dy Q I m rx ry hx hy r
def eChain (g g' : D → D → List D → R) (a b c : EF) : EF := fun env M => (a env M).bind fun x M1 => (b env M1).bind fun y M2 => (g x y M2).bind fun r M3 => match r with
  | .bl true => (c env M3).bind fun z M4 => g' y z M4
  | .bl false => .ok (.bl false) M3
  | _ => .stuck
def lNil : LF := fun _ M => .ok [] M
def lCons (a : EF) (l : LF) : LF := fun env M => (a env M).bindL fun x M1 => (l env M1).bindL fun xs M2 => .ok (x :: xs) M2
variable {e : Expr} {es : List Expr} {f : EF} {l : LF}
theorem sl_nil : SL X W [] lNil := PA.imp pa_nil fun σ H Q ⟨N0, F, Ad, M, env, m, en, r⟩ => r [] F Ad H Gr.refl m .nil
theorem slb_nil : SLB X W [] lNil := PA.imp pa_nil fun σ H Q ⟨N0, F, Ad, M, env, m, en, r⟩ => r [] F Ad H Gr.refl m .nil
theorem sl_cons (ha : SE X W e f) (hr : SL X W es l) (hs : starEach (e :: es) X.env = (false, eval e X.env) :: starEach es X.env := by rfl) : SL X W (e :: es) (lCons f l) :=
  PA.imp (pa_cons ha hr hs) fun σ H Q ⟨N0, F, Ad, M, env, m, en, r⟩ => tG_seqL m en r fun d M1 v F1 Ad1 H1 g1 m1 en1 x1 r1 => tL_seqL m1 en1 r1 fun ds M2 vs F2 Ad2 H2 g2 m2 en2 x2 r2 =>
    r2 (v :: vs) F2 Ad2 H2 Gr.refl m2 (.cons (x1.mono g2.fle g2.pre) x2)
theorem slb_cons (ha : SB X W e f) (hr : SLB X W es l) (hs : starEach (e :: es) X.env = (false, eval e X.env) :: starEach es X.env := by rfl) : SLB X W (e :: es) (lCons f l) :=
  PA.imp (pa_cons ha hr hs) fun σ H Q ⟨N0, F, Ad, M, env, m, en, r⟩ => tG_seqL m en r fun d M1 v F1 Ad1 H1 g1 m1 en1 x1 r1 => tL_seqL m1 en1 r1 fun ds M2 vs F2 Ad2 H2 g2 m2 en2 x2 r2 =>
    r2 (v :: vs) F2 Ad2 H2 Gr.refl m2 (.cons (DB.gr g2 x1) x2)
def eTup (l : LF) : EF := fun env M => (l env M).bind fun xs M1 => if xs.length ≤ sizeLine then .ok (.tup xs) M1 else .stuck
def eLst (l : LF) : EF := fun env M => (l env M).bind fun xs M1 => if xs.length ≤ sizeLine then .ok (.lst xs) M1 else .stuck
theorem se_tup {k} (h : SL X W es l) : SE X W (.Tuple es k pos) (eTup l) := PE.imp (pe_tup h) fun σ H Q ⟨N0, F, Ad, M, env, m, en, r⟩ => tL_seq DE.ok m en r fun ds M1 vs F1 Ad1 H1 g1 m1 en1 x1 r1 => by
  split at r1
  · rename_i z; exact ⟨by rw [x1.length]; exact z, fun p hp => RP.newTup r1 m1 x1 hp⟩
  · exact r1.elim
theorem so_lst (h : SL X W es l) : SO X W (.List es pos) (eLst l) := PE.imp (pe_lst h) fun σ H Q ⟨N0, F, Ad, M, env, m, en, r⟩ => tL_seq DO.ok m en r fun ds M1 vs F1 Ad1 H1 g1 m1 en1 x1 r1 => by
  split at r1
  · rename_i z; exact ⟨by rw [x1.length]; exact z, fun p hp => RP.ownLst r1 m1 x1 hp⟩
  · exact r1.elim
def eNew (d : D) : EF := fun _ M => .ok d M
theorem so_dK : SO X W (.Dict [] [] pos) (eNew (.dK [])) := PE.imp pe_dnewK fun σ H Q ⟨N0, F, Ad, M, env, m, en, r⟩ p hp => RP.ownDK r m .nil hp
def CallS (X : Cx) (DR : DRel) (f : Value) (g : List D → List D → R) : Prop :=
  ∀ (pins : List (Addr × Obj)) (s : Shared) (σ : St) (H F : Hp) (Ad : List Addr) (M : List D) (E : XK) (xs : List V) (us : List Value) (ds : List D) (Q : VK), Inv X pins σ H s → MemOk X.K F Ad M H → Vals xs us → DLB X.K F Ad H xs ds →
    RP X.K E DR F Ad H Q (g ds M) → wpAny (model X.prog X.w) X.A (call f us) (EP X pins σ Q) X.xe s
def eCall (g : List D → List D → R) (l : LF) : EF := fun env M => (l env M).bind g
def rC (X : Cx) (E : XK) (DR : DRel) (g : List D → List D → R) : List V → Hp → VK → Prop := fun xs H Q => ∃ F Ad M ds, MemOk X.K F Ad M H ∧ DLB X.K F Ad H xs ds ∧ RP X.K E DR F Ad H Q (g ds M)
theorem s_callB (dr : DRok DR) {id : String} {x : Str} {p : Pos} {g : List D → List D → R} (hc : CallS X DR (.builtin id) g) (hg : Gl X x) (hm : X.mg x = none) (hv : bootBuiltins x = some (.builtin id)) (ha : SLB X W (e :: es) l) (hn : x ≠ "__name__" := by decide) (hdb : (x == ("__debug__" : Str)) = false := by decide)
    (he : starEach (e :: es) X.env = (false, eval e X.env) :: starEach es X.env := by rfl) (hpl : (backTo pos (starEach es X.env)).any (·.1) = false := by rfl) : PE X (.Call (.Name x p) (e :: es) [] pos) (tG X.K W DR (eCall g l)) := by
  refine ⟨fun pins s σ H Q I ⟨N0, F, Ad, M, env, m, en, r⟩ => ?_⟩
  refine wpAny_Call_Name_kw (ld_blt I hg hm hv ?_ hn hdb)
  refine PyProof.Rows.callWith_builtin1 (thn (ha.run pos pins s σ H _ I (tL_seq (Q' := fun vs H1 => rC X (fun c d H => W c d σ H) DR g vs H1 Q) dr m en r fun ds M1 vs F1 Ad1 H1 g1 m1 en1 x1 r1 => ⟨F1, Ad1, M1, ds, m1, x1, r1⟩)) fun us s1 ⟨vs, H1, I1, rv, F1, Ad1, M1, ds, m1, x1, r1⟩ => ?_) he hpl
  exact hc pins s1 σ H1 F1 Ad1 M1 _ vs us ds Q I1 m1 rv x1 r1
theorem s_callTy (dr : DRok DR) {id : String} {x : Str} {p : Pos} {g : List D → List D → R} (hc : CallS X DR (.type id) g) (hg : Gl X x) (hm : X.mg x = none) (hv : bootBuiltins x = some (.type id)) (ha : SLB X W (e :: es) l) (hn : x ≠ "__name__" := by decide) (hdb : (x == ("__debug__" : Str)) = false := by decide)
    (he : starEach (e :: es) X.env = (false, eval e X.env) :: starEach es X.env := by rfl) (hpl : (backTo pos (starEach es X.env)).any (·.1) = false := by rfl) : PE X (.Call (.Name x p) (e :: es) [] pos) (tG X.K W DR (eCall g l)) := by
  refine ⟨fun pins s σ H Q I ⟨N0, F, Ad, M, env, m, en, r⟩ => ?_⟩
  refine wpAny_Call_Name_kw (ld_blt I hg hm hv ?_ hn hdb)
  refine PyProof.Rows.callWith_type1 (thn (ha.run pos pins s σ H _ I (tL_seq (Q' := fun vs H1 => rC X (fun c d H => W c d σ H) DR g vs H1 Q) dr m en r fun ds M1 vs F1 Ad1 H1 g1 m1 en1 x1 r1 => ⟨F1, Ad1, M1, ds, m1, x1, r1⟩)) fun us s1 ⟨vs, H1, I1, rv, F1, Ad1, M1, ds, m1, x1, r1⟩ => ?_) he hpl
  exact hc pins s1 σ H1 F1 Ad1 M1 _ vs us ds Q I1 m1 rv x1 r1
theorem CallS.of {v : Value} {g : List D → List D → R} (h : ∀ (E : XK), CallR X v (rC X E DR g)) : CallS X DR v g := fun pins s σ H F Ad M E xs us ds Q I m rv x r => h E pins s σ H xs us Q I rv ⟨F, Ad, M, ds, m, x, r⟩
theorem DLB.one {vs d} (h : DLB K F Ad H vs [d]) : ∃ v, vs = [v] ∧ DB K H F Ad H v d := by
  cases h with | cons h r => cases r; exact ⟨_, rfl, h⟩
theorem DLB.two {vs d d'} (h : DLB K F Ad H vs [d, d']) : ∃ v v', vs = [v, v'] ∧ DB K H F Ad H v d ∧ DB K H F Ad H v' d' := by
  cases h with | cons h r => obtain ⟨v', rfl, h'⟩ := r.one; exact ⟨_, _, rfl, h, h'⟩
def bLen (ds : List D) (M : List D) : R := match ds with
  | [d] => (match view M d with
    | .lst xs => .ok (.int xs.length) M
    | .tup xs => .ok (.int xs.length) M
    | .ktp xs => .ok (.int xs.length) M
    | .scr xs => .ok (.int xs.length) M
    | .str s => if s.length ≤ sizeLine then .ok (.int s.length) M else .stuck
    | _ => .stuck)
  | _ => .stuck
theorem call_lenS : CallS X (DE X.K) (.builtin "len") bLen := by
  intro pins s σ H F Ad M E xs us ds Q I m rv x r
  unfold bLen at r
  split at r
  · rename_i d
    obtain ⟨v, rfl, hx⟩ := x.one
    have ax := DB.view m hx
    split at r
    · rename_i ys e; rw [e] at ax; obtain ⟨a, vs, rfl, h1, h2⟩ := ax.lst m
      exact call_len pins s σ H _ us Q I rv ⟨_, ys.length, rfl, .inl ⟨vs, SqL.of h1, h2.length.symm⟩, RP.here r m .int⟩
    · rename_i ys e; rw [e] at ax; obtain ⟨a, vs, rfl, h1, h2⟩ := ax.tup m
      exact call_len pins s σ H _ us Q I rv ⟨_, ys.length, rfl, .inr ⟨vs, h1, h2.length.symm⟩, RP.here r m .int⟩
    · rename_i ys e; rw [e] at ax; obtain ⟨a, vs, rfl, h1, h2⟩ := ax.ktp m
      exact call_len pins s σ H _ us Q I rv ⟨_, ys.length, rfl, .inr ⟨vs, h1, h2.length.symm⟩, RP.here r m .int⟩
    · rename_i ys e; rw [e] at ax; obtain ⟨a, rfl, h1⟩ := ax.scr m
      exact call_len pins s σ H _ us Q I rv ⟨_, ys.length, rfl, .inl ⟨_, h1, by simp⟩, RP.here r m .int⟩
    · rename_i z e; rw [e] at ax
      split at r
      · rename_i hz; obtain rfl := ax.str; exact call_len pins s σ H _ us Q I rv ⟨_, z.length, rfl, ⟨hz, rfl⟩, RP.here r m .int⟩
      · exact r.elim
    · exact r.elim
  · exact r.elim
def bInt (ds : List D) (M : List D) : R := match ds with
  | [d] => (match view M d with
    | .int i => .ok (.int i) M
    | _ => .stuck)
  | _ => .stuck
theorem call_intS : CallS X (DE X.K) (.type "int") bInt := by
  intro pins s σ H F Ad M E xs us ds Q I m rv x r
  unfold bInt at r
  split at r
  · rename_i d
    obtain ⟨v, rfl, hx⟩ := x.one
    have ax := DB.view m hx
    split at r
    · rename_i i e; rw [e] at ax
      exact call_int1 pins s σ H _ us Q I rv (.inl ⟨i, by rw [ax.int], RP.here r m .int⟩)
    · exact r.elim
  · exact r.elim
def bAbs (ds : List D) (M : List D) : R := match ds with
  | [d] => (match view M d with
    | .int i => .ok (.int (if i < 0 then -i else i)) M
    | _ => .stuck)
  | _ => .stuck
theorem call_absS : CallS X (DE X.K) (.builtin "abs") bAbs := by
  intro pins s σ H F Ad M E xs us ds Q I m rv x r
  unfold bAbs at r
  split at r
  · rename_i d
    obtain ⟨v, rfl, hx⟩ := x.one
    have ax := DB.view m hx
    split at r
    · rename_i i e; rw [e] at ax
      exact call_abs pins s σ H _ us Q I rv ⟨i, by rw [ax.int], RP.here r m .int⟩
    · exact r.elim
  · exact r.elim
def mx2 (i j : Int) : Int := if j > i then j else i
def mn2 (i j : Int) : Int := if j < i then j else i
def mxL : List Int → Int | [] => 0 | [i] => i | i :: r => max i (mxL r)
def mnL : List Int → Int | [] => 0 | [i] => i | i :: r => min i (mnL r)
theorem mxL_spec : ∀ {ns : List Int} {m : Int}, m ∈ ns → (∀ y, y ∈ ns → y ≤ m) → mxL ns = m
  | [i], m, h, _ => by simp at h; subst h; rfl
  | i :: j :: r, m, h, hm => by
    show max i (mxL (j :: r)) = m
    have hi := hm i (by simp)
    rcases List.mem_cons.mp h with rfl | h
    · have : mxL (j :: r) ≤ m := by
        clear h
        have key : ∀ l : List Int, l ≠ [] → (∀ y, y ∈ l → y ≤ m) → mxL l ≤ m := by
          intro l
          induction l with
          | nil => intro h; exact absurd rfl h
          | cons a t ih =>
            intro _ hl
            cases t with
            | nil => exact hl a (by simp)
            | cons b t => 
              have h1 := ih (by simp) fun y hy => hl y (List.mem_cons_of_mem _ hy)
              have h2 := hl a (by simp)
              show max a (mxL (b :: t)) ≤ m
              omega
        exact key _ (by simp) fun y hy => hm y (List.mem_cons_of_mem _ hy)
      omega
    · rw [mxL_spec h fun y hy => hm y (List.mem_cons_of_mem _ hy)]
      omega
theorem mnL_spec : ∀ {ns : List Int} {m : Int}, m ∈ ns → (∀ y, y ∈ ns → m ≤ y) → mnL ns = m
  | [i], m, h, _ => by simp at h; subst h; rfl
  | i :: j :: r, m, h, hm => by
    show min i (mnL (j :: r)) = m
    have hi := hm i (by simp)
    rcases List.mem_cons.mp h with rfl | h
    · have : m ≤ mnL (j :: r) := by
        clear h
        have key : ∀ l : List Int, l ≠ [] → (∀ y, y ∈ l → m ≤ y) → m ≤ mnL l := by
          intro l
          induction l with
          | nil => intro h; exact absurd rfl h
          | cons a t ih =>
            intro _ hl
            cases t with
            | nil => exact hl a (by simp)
            | cons b t => 
              have h1 := ih (by simp) fun y hy => hl y (List.mem_cons_of_mem _ hy)
              have h2 := hl a (by simp)
              show m ≤ min a (mnL (b :: t))
              omega
        exact key _ (by simp) fun y hy => hm y (List.mem_cons_of_mem _ hy)
      omega
    · rw [mnL_spec h fun y hy => hm y (List.mem_cons_of_mem _ hy)]
      omega
def bMax (ds : List D) (M : List D) : R := match ds with
  | [d, d'] => (match view M d, view M d' with
    | .int i, .int j => .ok (.int (mx2 i j)) M
    | _, _ => .stuck)
  | [d] => (match view M d with
    | .lst xs => (match intsOf xs with
      | some (i :: r) => .ok (.int (mxL (i :: r))) M
      | _ => .stuck)
    | _ => .stuck)
  | _ => .stuck
def bMin (ds : List D) (M : List D) : R := match ds with
  | [d, d'] => (match view M d, view M d' with
    | .int i, .int j => .ok (.int (mn2 i j)) M
    | _, _ => .stuck)
  | [d] => (match view M d with
    | .lst xs => (match intsOf xs with
      | some (i :: r) => .ok (.int (mnL (i :: r))) M
      | _ => .stuck)
    | _ => .stuck)
  | _ => .stuck
theorem call_maxS (hc : X.calm = true) : CallS X (DE X.K) (.builtin "max") bMax := by
  intro pins s σ H F Ad M E xs us ds Q I m rv x r
  unfold bMax at r
  split at r
  · rename_i d d'
    obtain ⟨v, v', rfl, hx, hy⟩ := x.two
    have ax := DB.view m hx
    have ay := DB.view m hy
    split at r
    · rename_i i j e e'; rw [e] at ax; rw [e'] at ay
      exact call_max2 hc pins s σ H _ us Q I rv ⟨i, j, by rw [ax.int, ay.int], RP.here r m .int⟩
    · exact r.elim
  · rename_i d
    obtain ⟨v, rfl, hx⟩ := x.one
    have ax := DB.view m hx
    split at r
    · rename_i ys e; rw [e] at ax; obtain ⟨a, vs, rfl, h1, h2⟩ := ax.lst m
      split at r
      · rename_i i t e2
        refine cr_max hc pins s σ H _ us Q I rv ⟨a, i :: t, rfl, by rw [← h2.ints e2]; exact SqL.of h1, by simp, fun mm h3 h4 => ?_⟩
        rw [← mxL_spec h3 h4]; exact RP.here r m .int
      · exact r.elim
    · exact r.elim
  · exact r.elim
theorem call_minS (hc : X.calm = true) : CallS X (DE X.K) (.builtin "min") bMin := by
  intro pins s σ H F Ad M E xs us ds Q I m rv x r
  unfold bMin at r
  split at r
  · rename_i d d'
    obtain ⟨v, v', rfl, hx, hy⟩ := x.two
    have ax := DB.view m hx
    have ay := DB.view m hy
    split at r
    · rename_i i j e e'; rw [e] at ax; rw [e'] at ay
      exact call_min2 hc pins s σ H _ us Q I rv ⟨i, j, by rw [ax.int, ay.int], RP.here r m .int⟩
    · exact r.elim
  · rename_i d
    obtain ⟨v, rfl, hx⟩ := x.one
    have ax := DB.view m hx
    split at r
    · rename_i ys e; rw [e] at ax; obtain ⟨a, vs, rfl, h1, h2⟩ := ax.lst m
      split at r
      · rename_i i t e2
        refine cr_min hc pins s σ H _ us Q I rv ⟨a, i :: t, rfl, by rw [← h2.ints e2]; exact SqL.of h1, by simp, fun mm h3 h4 => ?_⟩
        rw [← mnL_spec h3 h4]; exact RP.here r m .int
      · exact r.elim
    · exact r.elim
  · exact r.elim
def boolsOf : List D → Option (List Bool)
  | [] => some []
  | .bl i :: r => (boolsOf r).map (i :: ·)
  | _ :: _ => none
theorem DenL.bools : ∀ {vs ds ns}, DenL K F Ad vs ds → boolsOf ds = some ns → vs = ns.map V.bl
  | _, _, ns, .nil, e => by simp [boolsOf] at e; subst e; rfl
  | _, _, ns, .cons (d := d) h r, e => by
    cases d with
    | bl i =>
      simp only [boolsOf, Option.map_eq_some_iff] at e
      obtain ⟨ms, e1, rfl⟩ := e
      cases h
      simp [DenL.bools r e1]
    | _ => simp [boolsOf] at e
def bAll (ds : List D) (M : List D) : R := match ds with
  | [d] => (match view M d with
    | .lst xs => (match boolsOf xs with
      | some bs => .ok (.bl (bs.all id)) M
      | _ => .stuck)
    | _ => .stuck)
  | _ => .stuck
theorem call_allS (hc : X.calm = true) : CallS X (DE X.K) (.builtin "all") bAll := by
  intro pins s σ H F Ad M E xs us ds Q I m rv x r
  unfold bAll at r
  split at r
  · rename_i d
    obtain ⟨v, rfl, hx⟩ := x.one
    have ax := DB.view m hx
    split at r
    · rename_i ys e; rw [e] at ax; obtain ⟨a, vs, rfl, h1, h2⟩ := ax.lst m
      split at r
      · rename_i bs e2
        exact cr_all hc pins s σ H _ us Q I rv ⟨a, bs, rfl, by rw [← h2.bools e2]; exact SqL.of h1, RP.here r m .bl⟩
      · exact r.elim
    · exact r.elim
  · exact r.elim
def bTup (ds : List D) (M : List D) : R := match ds with
  | [d] => (match view M d with
    | .lst xs => .ok (.tup xs) M
    | .tup xs => .ok (.tup xs) M
    | _ => .stuck)
  | _ => .stuck
theorem call_tupS : CallS X (DE X.K) (.type "tuple") bTup := by
  intro pins s σ H F Ad M E xs us ds Q I m rv x r
  unfold bTup at r
  split at r
  · rename_i d
    obtain ⟨v, rfl, hx⟩ := x.one
    have ax := DB.view m hx
    split at r
    · rename_i ys e; rw [e] at ax; obtain ⟨a, vs, rfl, h1, h2⟩ := ax.lst m
      exact call_tuple_of pins s σ H _ us Q I rv ⟨a, vs, rfl, .inl ⟨SqL.of h1, fun p hp => RP.newTup r m h2 hp⟩⟩
    · rename_i ys e; rw [e] at ax
      have ad := ax.den (fun _ h => nomatch h)
      obtain ⟨a, vs, rfl, h1, h2⟩ := ax.tup m
      exact call_tuple_of pins s σ H _ us Q I rv ⟨a, vs, rfl, .inr ⟨h1, RP.here r m ad⟩⟩
    · exact r.elim
  · exact r.elim
end
end MP
set_option maxRecDepth 100000
set_option maxHeartbeats 1000000
namespace MP
open PySem PySem.Spec PyProof.Rows L2
variable [TabsP] [ThkP]
section
variable {κ : Type} [DecidableEq κ] {α : Type}
def valK (kvs : List (κ × α)) (k : κ) : Option α := (kvs.find? fun kv => decide (kv.1 = k)).map (·.2)
def insK (kvs : List (κ × α)) (k : κ) (v : α) : List (κ × α) :=
  if (kvs.any fun kv => decide (kv.1 = k)) = true then kvs.map (fun kv => if kv.1 = k then (kv.1, v) else kv) else kvs ++ [(k, v)]
end
def keyD : D → Option Key
  | .int i => some (.inl i)
  | .str s => some (.inr s)
  | _ => none
def keysE : List D → Option (List Key)
  | [] => some []
  | d :: r => match keyD d, keysE r with
    | some k, some ks => some (k :: ks)
    | _, _ => none
def keysD (ds : List D) : Option (List Key) := match ds with
  | [] => none
  | d :: r => keysE (d :: r)
section
variable {X : Cx} {W : WX} {K : PySem.W.Frag} {E : XK} {DR : DRel} {N0 : Ent} {H0 F H : Hp} {Ad : List Addr} {M : List D} {env : EnvM} {σ : St} {Q : VK} {x : V}
theorem keyD_v {d : D} {k : Key} (h : Den K F Ad x d) (e : keyD d = some k) : x = kV k := by
  cases h <;> simp [keyD] at e <;> subst e <;> rfl
theorem keysE_v : ∀ {vs : List V} {ds : List D} {ks : List Key}, DenL K F Ad vs ds → keysE ds = some ks → vs = ks.map kV
  | _, _, ks, .nil, e => by simp [keysE] at e; subst e; rfl
  | _, _, ks, .cons h r, e => by
    simp only [keysE] at e
    split at e
    · rename_i k ks' e1 e2
      cases e
      rw [keyD_v h e1, keysE_v r e2]; rfl
    · cases e
theorem keysD_e {ds : List D} {ks : List Key} (e : keysD ds = some ks) : keysE ds = some ks ∧ ds ≠ [] := by
  cases ds with
  | nil => cases e
  | cons d r => exact ⟨e, fun z => nomatch z⟩
theorem keysD_v {vs : List V} {ds : List D} {ks : List Key} (h : DenL K F Ad vs ds) (e : keysD ds = some ks) : vs = ks.map kV := keysE_v h (keysD_e e).1
theorem TupK.key {a : Addr} {vs : List V} {ds : List D} {ks : List Key} (h : TupK K F a vs) (r : DenL K F Ad vs ds) (e : keysD ds = some ks) : F a = some (.tup vs) := by
  rcases h with h | ⟨rfl, _⟩
  · exact h
  · cases r; exact absurd rfl (keysD_e e).2
theorem DenK.val (k : Key) : ∀ {vs ds}, DenK K F Ad vs ds → (∀ d, valK ds k = some d → ∃ v, valV vs k = some v ∧ Den K F Ad v d) ∧ (valK ds k = none → valV vs k = none)
  | _, _, .nil => ⟨fun _ h => by simp [valK] at h, fun _ => rfl⟩
  | _, _, .cons (k := j) h r => by
    have ih := DenK.val k r
    by_cases e : j = k
    · rw [valV_pos e]
      refine ⟨fun d hd => ?_, fun hd => ?_⟩
      · simp [valK, List.find?_cons, e] at hd; subst hd; exact ⟨_, rfl, h⟩
      · simp [valK, List.find?_cons, e] at hd
    · rw [valV_neg e]
      refine ⟨fun d hd => ih.1 d ?_, fun hd => ih.2 ?_⟩
      · simpa [valK, List.find?_cons, e] using hd
      · simpa [valK, List.find?_cons, e] using hd
theorem DenT.val (k : List Key) : ∀ {vs ds}, DenT K F Ad vs ds → (∀ d, valK ds k = some d → ∃ v, valV vs k = some v ∧ Den K F Ad v d) ∧ (valK ds k = none → valV vs k = none)
  | _, _, .nil => ⟨fun _ h => by simp [valK] at h, fun _ => rfl⟩
  | _, _, .cons (k := j) h r => by
    have ih := DenT.val k r
    by_cases e : j = k
    · rw [valV_pos e]
      refine ⟨fun d hd => ?_, fun hd => ?_⟩
      · simp [valK, List.find?_cons, e] at hd; subst hd; exact ⟨_, rfl, h⟩
      · simp [valK, List.find?_cons, e] at hd
    · rw [valV_neg e]
      refine ⟨fun d hd => ih.1 d ?_, fun hd => ih.2 ?_⟩
      · simpa [valK, List.find?_cons, e] using hd
      · simpa [valK, List.find?_cons, e] using hd
theorem DenK.any (k : Key) : ∀ {vs ds}, DenK K F Ad vs ds → (vs.any fun kv => decide (kv.1 = k)) = (ds.any fun kv => decide (kv.1 = k))
  | _, _, .nil => rfl
  | _, _, .cons _ r => by simp only [List.any_cons]; rw [DenK.any k r]
theorem DenT.any (k : List Key) : ∀ {vs ds}, DenT K F Ad vs ds → (vs.any fun kv => decide (kv.1 = k)) = (ds.any fun kv => decide (kv.1 = k))
  | _, _, .nil => rfl
  | _, _, .cons _ r => by simp only [List.any_cons]; rw [DenT.any k r]
theorem DenK.app {k v d} : ∀ {vs ds}, DenK K F Ad vs ds → Den K F Ad v d → DenK K F Ad (vs ++ [(k, v)]) (ds ++ [(k, d)])
  | _, _, .nil, h => .cons h .nil
  | _, _, .cons q r, h => .cons q (r.app h)
theorem DenT.app {k v d} : ∀ {vs ds}, DenT K F Ad vs ds → Den K F Ad v d → DenT K F Ad (vs ++ [(k, v)]) (ds ++ [(k, d)])
  | _, _, .nil, h => .cons h .nil
  | _, _, .cons q r, h => .cons q (r.app h)
theorem DenK.repl {k v d} : ∀ {vs ds}, DenK K F Ad vs ds → Den K F Ad v d → DenK K F Ad (vs.map fun kv => if kv.1 = k then (kv.1, v) else kv) (ds.map fun kv => if kv.1 = k then (kv.1, d) else kv)
  | _, _, .nil, h => .nil
  | _, _, .cons (k := j) q r, h => by
    simp only [List.map_cons]
    by_cases e : j = k
    · simp only [e, if_true]; exact .cons h (r.repl h)
    · simp only [e, if_false]; exact .cons q (r.repl h)
theorem DenT.repl {k v d} : ∀ {vs ds}, DenT K F Ad vs ds → Den K F Ad v d → DenT K F Ad (vs.map fun kv => if kv.1 = k then (kv.1, v) else kv) (ds.map fun kv => if kv.1 = k then (kv.1, d) else kv)
  | _, _, .nil, h => .nil
  | _, _, .cons (k := j) q r, h => by
    simp only [List.map_cons]
    by_cases e : j = k
    · simp only [e, if_true]; exact .cons h (r.repl h)
    · simp only [e, if_false]; exact .cons q (r.repl h)
theorem DenK.put {k v d vs ds} (h : DenK K F Ad vs ds) (q : Den K F Ad v d) : DenK K F Ad (putK vs k v) (insK ds k d) := by
  unfold putK insK
  rw [h.any k]
  split
  · exact h.repl q
  · exact h.app q
theorem DenT.put {k v d vs ds} (h : DenT K F Ad vs ds) (q : Den K F Ad v d) : DenT K F Ad (putK vs k v) (insK ds k d) := by
  unfold putK insK
  rw [h.any k]
  split
  · exact h.repl q
  · exact h.app q
theorem DV.dK (m : MemOk K F Ad M H) {ds} (h : DV K F Ad H x (.dK ds)) : ∃ a vs, x = .ref a ∧ Rd H a (.dK vs) ∧ DenK K F Ad vs ds := by
  rcases h with h | ⟨a, e, r⟩
  · cases h with
    | dK h r =>
      rcases nrm_dK h with h | ⟨b, h⟩
      · exact ⟨_, _, rfl, .inl (m.sub _ _ h), r⟩
      · exact ⟨_, _, rfl, .inr ⟨b, m.sub _ _ h⟩, r⟩
  · cases r with | dK h r => exact ⟨_, _, e, .inl h, r⟩
theorem DV.dT (m : MemOk K F Ad M H) {ds} (h : DV K F Ad H x (.dT ds)) : ∃ a vs, x = .ref a ∧ Rd H a (.dT vs) ∧ DenT K F Ad vs ds := by
  rcases h with h | ⟨a, e, r⟩
  · cases h with
    | dT h r =>
      rcases nrm_dT h with h | ⟨b, h⟩
      · exact ⟨_, _, rfl, .inl (m.sub _ _ h), r⟩
      · exact ⟨_, _, rfl, .inr ⟨b, m.sub _ _ h⟩, r⟩
  · cases r with | dT h r => exact ⟨_, _, e, .inl h, r⟩
theorem DB.int {i} (h : DB K H0 F Ad H x (.int i)) : x = .int i := by
  rcases h with h | ⟨a, e, n, na, q⟩
  · cases h; rfl
  · cases q
theorem DB.den {d} (h : DB K H0 F Ad H x d) (n : ∀ a, ¬ Root K F Ad H a d) : Den K F Ad x d := by
  rcases h with h | ⟨a, e, _, _, r⟩
  · exact h
  · exact absurd r (n a)
theorem ix_dict (hu : X.A.units + 1 < cLine) : IxR X (fun x y H Q => ∃ a v, x = .ref a ∧ DGet H a y (some v) ∧ Q v H) := by
  intro value slice pins s σ H x y v u Q I rx ry h hs
  obtain ⟨a, z, rfl, g, q⟩ := h
  obtain rfl : v = Value.ref a := rx
  have key : wpAny (model X.prog X.w) X.A (getItem (.ref a) u) (EP X pins σ Q) X.xe s := d_getItem hu I g ry fun w' s3 I3 rw' => ⟨z, H, I3, rw', q⟩
  have T := dict_typeIs I g
  have fin : wpAny (model X.prog X.w) X.A (subscripted slice false (.ref a) u) (fun r s₃ => wpAny (model X.prog X.w) X.A (letTemporaryGo value (.ref a) r >>= fun _ => pure r) (EP X pins σ Q) X.xe s₃) X.xe s := by
    rw [hs]
    refine wpAny_operating ?_
    refine wpAny_mono key (fun r s3 q3 => ?_) fun _ _ z => z
    exact wpAny_bind (wpAny_letTemporaryGo (wpAny_pure q3))
  unfold subscriptTail
  apply wpAny_bind
  rw [getitemInPython_of_ne T.not_modules]
  apply wpAny_bind
  apply wpAny_specialOf T PySem.F.slot_dict_getitem.lookup
  first
    | exact wpAny_pure (wpAny_bind fin)
    | exact wpAny_bind fin
    | exact wpAny_pure fin
def oIx (x y : D) (M : List D) : R := match view M x with
  | .lst xs => (match y with | .int i => (match atI xs i with | some d => .ok d M | none => .stuck) | _ => .stuck)
  | .tup xs => (match y with | .int i => (match atI xs i with | some d => .ok d M | none => .stuck) | _ => .stuck)
  | .ktp xs => (match y with | .int i => (match atI xs i with | some d => .ok d M | none => .stuck) | _ => .stuck)
  | .scr ns => (match y with | .int i => (match atI ns i with | some d => .ok (.int d) M | none => .stuck) | _ => .stuck)
  | .str z => (match y with | .int i => (if z.length ≤ sizeLine then (match atI z.cps.toList i with | some c => .ok (.str ⟨#[c]⟩) M | none => .stuck) else .stuck) | _ => .stuck)
  | .dK kvs => (match keyD y with | some k => (match valK kvs k with | some d => .ok d M | none => .stuck) | none => .stuck)
  | .dT kvs => (match y with | .tup ks => (match keysD ks with | some k => (match valK kvs k with | some d => .ok d M | none => .stuck) | none => .stuck) | _ => .stuck)
  | _ => .stuck
theorem atI_den {vs ds} {i : Int} {d : D} (h : DenL K F Ad vs ds) (e : atI ds i = some d) : ∃ v, atI vs i = some v ∧ Den K F Ad v d := by
  unfold atI at e ⊢
  rw [h.length]
  cases q : ixN ds.length i with
  | none => rw [q] at e; cases e
  | some j =>
    rw [q] at e
    obtain ⟨v, h1, h2⟩ := h.get (i := j) (d := d) e
    exact ⟨v, h1, h2⟩
theorem atI_map {α β : Type} {f : α → β} {ns : List α} {i : Int} {d : α} (e : atI ns i = some d) : atI (ns.map f) i = some (f d) := by
  unfold atI at e ⊢
  rw [List.length_map]
  cases q : ixN ns.length i with
  | none => rw [q] at e; cases e
  | some j =>
    rw [q] at e
    have e : ns[j]? = some d := e
    show (ns.map f)[j]? = some (f d)
    rw [List.getElem?_map, e]; rfl
def rIxAll (X : Cx) : R2 := fun x y H Q => rIxL X.K x y H Q ∨ rIxT X.K x y H Q ∨ rIxS x y H Q ∨ ∃ a v, x = .ref a ∧ DGet H a y (some v) ∧ Q v H
theorem ix_all (hu : X.A.units + 1 < cLine) : IxR X (rIxAll X) := ix_list.or (ix_tup.or (ix_str.or (ix_dict hu)))
theorem oIx_ok {y : V} {dx dy : D} (m : MemOk X.K F Ad M H) (hx : DB X.K H F Ad H x dx) (hy : DB X.K H F Ad H y dy) (r : RP X.K E (DE X.K) F Ad H Q (oIx dx dy M)) : rIxAll X x y H Q := by
  have ax := DB.view m hx
  unfold oIx at r
  revert r ax
  generalize view M dx = ex
  intro r ax
  cases ex with
  | lst xs =>
    dsimp only at r
    split at r
    · rename_i i
      split at r
      · rename_i oo d e
        obtain ⟨a, vs, rfl, h1, d1⟩ := ax.lst m
        obtain ⟨v, e1, e2⟩ := atI_den d1 e
        exact .inl ⟨a, vs, i, v, rfl, hy.int, SqL.of h1, e1, RP.here r m e2⟩
      · exact r.elim
    · exact r.elim
  | tup xs =>
    dsimp only at r
    split at r
    · rename_i i
      split at r
      · rename_i oo d e
        obtain ⟨a, vs, rfl, h1, d1⟩ := ax.tup m
        obtain ⟨v, e1, e2⟩ := atI_den d1 e
        exact .inr (.inl ⟨a, vs, i, v, rfl, hy.int, h1, e1, RP.here r m e2⟩)
      · exact r.elim
    · exact r.elim
  | ktp xs =>
    dsimp only at r
    split at r
    · rename_i i
      split at r
      · rename_i oo d e
        obtain ⟨a, vs, rfl, h1, d1⟩ := ax.ktp m
        obtain ⟨v, e1, e2⟩ := atI_den d1 e
        exact .inr (.inl ⟨a, vs, i, v, rfl, hy.int, h1, e1, RP.here r m e2⟩)
      · exact r.elim
    · exact r.elim
  | scr xs =>
    dsimp only at r
    split at r
    · rename_i i
      split at r
      · rename_i oo d e
        obtain ⟨a, rfl, h1⟩ := ax.scr m
        exact .inl ⟨a, _, i, .int d, rfl, hy.int, h1, atI_map e, RP.here r m .int⟩
      · exact r.elim
    · exact r.elim
  | str z =>
    dsimp only at r
    split at r
    · rename_i i
      split at r
      · rename_i hz
        split at r
        · rename_i oo c e
          exact .inr (.inr (.inl ⟨z, i, c, ax.str, hy.int, hz, e, RP.here r m .str⟩))
        · exact r.elim
      · exact r.elim
    · exact r.elim
  | dK kvs =>
    dsimp only at r
    split at r
    · rename_i oo k ek
      split at r
      · rename_i oo2 d e
        obtain ⟨a, vs, rfl, h1, d1⟩ := ax.dK m
        obtain ⟨v, e1, e2⟩ := (d1.val k).1 d e
        have hy' : y = kV k := keyD_v (hy.den (fun a q => by cases q <;> simp [keyD] at ek)) ek
        exact .inr (.inr (.inr ⟨a, v, rfl, .inl ⟨vs, k, h1, hy', e1.symm⟩, RP.here r m e2⟩))
      · exact r.elim
    · exact r.elim
  | dT kvs =>
    dsimp only at r
    split at r
    · rename_i ks
      split at r
      · rename_i oo k ek
        split at r
        · rename_i oo2 d e
          obtain ⟨a, vs, rfl, h1, d1⟩ := ax.dT m
          obtain ⟨v, e1, e2⟩ := (d1.val k).1 d e
          have hd := hy.den (fun a q => nomatch q)
          cases hd with
          | tup h2 d2 =>
            have h2 := h2.key d2 ek
            rw [keysD_v d2 ek] at h2
            exact .inr (.inr (.inr ⟨a, v, rfl, .inr ⟨vs, k, _, h1, rfl, m.sub _ _ h2, e1.symm⟩, RP.here r m e2⟩))
        · exact r.elim
      · exact r.elim
    · exact r.elim
  | _ => exact r.elim
variable {a b e : Expr} {fa fb f : EF} {pos p2 : Pos}
theorem s_ix (hu : X.A.units + 1 < cLine) (ha : SB X W a fa) (hb : SB X W b fb) (hs : PlainIx b := by intro _ _; rfl) : SE X W (.Subscript a b pos) (e2 oIx fa fb) :=
  PE.imp (pe_ix (ix_all hu) ha hb hs) fun σ H Q ⟨N0, F, Ad, M, env, m, en, r⟩ =>
    tG_seq DE.ok m en r fun d M1 v F1 Ad1 H1 g1 m1 en1 x1 r1 => tG_seq DE.ok m1 en1 r1 fun d2 M2 v2 F2 Ad2 H2 g2 m2 en2 x2 r2 => oIx_ok m2 (DB.gr g2 x1) x2 r2
def optI : D → Option (Option Int)
  | .non => some none
  | .int i => some (some i)
  | _ => none
def tO (K : PySem.W.Frag) (W : WX) (f : EF) : TO := fun σ H Q => ∃ N0 F Ad M env, MemOk K F Ad M H ∧ EnvOk K N0 F Ad H σ env ∧ (match f env M with
  | .ok d M1 => ∃ o, optI d = some o ∧ ∀ F' Ad' H', Gr F Ad H F' Ad' H' → MemOk K F' Ad' M1 H' → Q o H'
  | .exc x M1 => ∀ cls dx F' Ad' H', Gr F Ad H F' Ad' H' → MemOk K F' Ad' M1 H' → XOk K F' Ad' H' x cls dx → W cls dx σ H'
  | .stuck => False)
abbrev SP (X : Cx) (W : WX) (e : Option Expr) (f : EF) : Prop := PO X e (tO X.K W f)
theorem PO.imp {X : Cx} {e : Option Expr} {t u : TO} (h : PO X e t) (i : ∀ σ H Q, u σ H Q → t σ H Q) : PO X e u := ⟨fun pins s σ H Q I q => h.run pins s σ H Q I (i σ H Q q)⟩
theorem sp_none : SP X W none (eC .non) := PO.imp po_none fun σ H Q ⟨N0, F, Ad, M, env, m, en, o, e, r⟩ => by
  cases e; exact r F Ad H Gr.refl m
def eInt (f : EF) : EF := fun env M => (f env M).bind fun d M1 => match d with | .int i => .ok (.int i) M1 | _ => .stuck
theorem sp_some (h : SE X W a fa) : SP X W (some a) (eInt fa) := PO.imp (po_some h) fun σ H Q ⟨N0, F, Ad, M, env, m, en, r⟩ => ⟨N0, F, Ad, M, env, m, en, by
  unfold eInt at r
  cases q : fa env M with
  | ok d M1 =>
    rw [q] at r
    intro v F' Ad' H' g m' x
    cases d with
    | int i =>
      cases x
      obtain ⟨o, e, r⟩ := r
      cases e
      exact ⟨_, rfl, r F' Ad' H' g m'⟩
    | _ => exact r.elim
  | exc x M1 => rw [q] at r; exact r
  | stuck => rw [q] at r; exact r⟩
def cutD (xs : List D) (lo hi : Option Int) : List D := (xs.drop (HT.sIx xs.length 0 lo)).take (HT.sIx xs.length xs.length hi - HT.sIx xs.length 0 lo)
def oSlE (x : D) (lo hi : Option Int) (M : List D) : R := match view M x with
    | .lst xs => .ok (.lst (cutD xs lo hi)) M
    | .scr ns => .ok (.lst (cutD (ns.map D.int) lo hi)) M
    | .tup xs => .ok (.tup (cutD xs lo hi)) M
    | .str z => if z.length ≤ sizeLine then .ok (.str (cutS z lo hi)) M else .stuck
    | _ => .stuck
def eSl (g : D → Option Int → Option Int → List D → R) (a l u : EF) : EF := fun env M => (a env M).bind fun x M1 => (l env M1).bind fun y M2 => match optI y with
  | none => .stuck
  | some lo => (u env M2).bind fun z M3 => match optI z with
    | none => .stuck
    | some hi => g x lo hi M3
theorem tO_seq {f : EF} {k : D → List D → R} {Q : VK} {Q' : Option Int → Hp → Prop} (dr : DRok DR) (m : MemOk K F Ad M H) (e : EnvOk K N0 F Ad H σ env)
    (h : RP K (fun c d H => W c d σ H) DR F Ad H Q ((f env M).bind k)) (hn : ∀ d M1, optI d = none → k d M1 = .stuck)
    (hq : ∀ d o M1 F1 Ad1 H1, optI d = some o → Gr F Ad H F1 Ad1 H1 → MemOk K F1 Ad1 M1 H1 → EnvOk K N0 F1 Ad1 H1 σ env → RP K (fun c d H => W c d σ H) DR F1 Ad1 H1 Q (k d M1) → Q' o H1) : tO K W f σ H Q' := by
  refine ⟨N0, F, Ad, M, env, m, e, ?_⟩
  cases q : f env M with
  | ok d M1 =>
    rw [q] at h
    cases ho : optI d with
    | none => rw [R.bind_ok, hn d M1 ho] at h; exact h.elim
    | some o => exact ⟨o, ho, fun F' Ad' H' g m' => hq d o M1 F' Ad' H' ho g m' (e.gr g) (RP.gr dr h g)⟩
  | exc x M1 => rw [q] at h; exact h
  | stuck => rw [q] at h; exact h
def rSlAll (X : Cx) : V → Option Int → Option Int → Hp → VK → Prop := fun x lo hi H Q => rSlL X.K x lo hi H Q ∨ rSlA X.K x lo hi H Q ∨ rSlS x lo hi H Q
theorem sl_all : SlR X (rSlAll X) := sl_list.or (sl_tupA.or sl_str)
theorem DenL.cut {vs ds lo hi} (h : DenL K F Ad vs ds) : DenL K F Ad (cutV vs lo hi) (cutD ds lo hi) := by
  unfold cutV cutD
  rw [h.length]
  exact (h.drop _).take _
theorem DenL.map_int : ∀ {ns : List Int}, DenL K F Ad (ns.map V.int) (ns.map D.int)
  | [] => .nil
  | _ :: _ => .cons .int DenL.map_int
theorem oSlE_ok {lo hi : Option Int} {dx : D} (m : MemOk X.K F Ad M H) (hx : DB X.K H F Ad H x dx) (r : RP X.K E (DE X.K) F Ad H Q (oSlE dx lo hi M)) : rSlAll X x lo hi H Q := by
  have ax := DB.view m hx
  unfold oSlE at r
  revert r ax
  generalize view M dx = ex
  intro r ax
  cases ex with
  | lst xs =>
    obtain ⟨a, vs, rfl, h1, d1⟩ := ax.lst m
    exact .inl ⟨a, vs, rfl, SqL.of h1, fun p hp => RP.newLst r m d1.cut hp⟩
  | scr ns =>
    obtain ⟨a, rfl, h1⟩ := ax.scr m
    exact .inl ⟨a, _, rfl, h1, fun p hp => RP.newLst r m DenL.map_int.cut hp⟩
  | tup xs =>
    dsimp only at r
    have dn := ax.den (fun _ h => nomatch h)
    obtain ⟨a, vs, rfl, h1, d1⟩ := ax.tup m
    refine .inr (.inl ⟨a, vs, rfl, h1, fun ⟨e1, e2⟩ => ?_, fun _ p hp => RP.newTup r m d1.cut hp⟩)
    have hc : cutD xs lo hi = xs := by
      unfold cutD
      rw [← d1.length, e1, e2, d1.length]; simp
    rw [hc] at r
    exact RP.here r m dn
  | str z =>
    dsimp only at r
    split at r
    · rename_i hz; exact .inr (.inr ⟨z, ax.str, hz, RP.here r m .str⟩)
    · exact False.elim r
  | _ => exact False.elim r
theorem s_sl (dr : DRok DR) {g : D → Option Int → Option Int → List D → R} (ho : ∀ {E : XK} {F H : Hp} {Ad : List Addr} {M : List D} {Q : VK} {x : V} {lo hi : Option Int} {dx : D}, MemOk X.K F Ad M H → DB X.K H F Ad H x dx → RP X.K E DR F Ad H Q (g dx lo hi M) → rSlAll X x lo hi H Q)
    {lo hi : Option Expr} {fl fu : EF} (ha : SB X W a fa) (hl : SP X W lo fl) (hu : SP X W hi fu) : PE X (.Subscript a (.Slice lo hi none p2) pos) (tG X.K W DR (eSl g fa fl fu)) :=
  PE.imp (pe_slice sl_all ha hl hu) fun σ H Q ⟨N0, F, Ad, M, env, m, en, r⟩ =>
    tG_seq dr m en r fun d M1 v F1 Ad1 H1 g1 m1 en1 x1 r1 =>
      tO_seq dr m1 en1 r1 (fun d2 M2 hd => by rw [hd]) fun d2 o2 M2 F2 Ad2 H2 e2 g2 m2 en2 r2 => by
        rw [e2] at r2
        exact tO_seq dr m2 en2 r2 (fun d3 M3 hd => by rw [hd]) fun d3 o3 M3 F3 Ad3 H3 e3 g3 m3 en3 r3 => by
          rw [e3] at r3
          exact ho m3 (DB.gr g3 (DB.gr g2 x1 (H0' := H2))) r3
theorem se_sl {lo hi : Option Expr} {fl fu : EF} (ha : SB X W a fa) (hl : SP X W lo fl) (hu : SP X W hi fu) : SE X W (.Subscript a (.Slice lo hi none p2) pos) (eSl oSlE fa fl fu) := s_sl DE.ok oSlE_ok ha hl hu
end
end MP
set_option maxRecDepth 100000
set_option maxHeartbeats 1000000
namespace MP
open PySem PySem.Spec PyProof.Rows L2
variable [TabsP] [ThkP]
structure Room (k : Nat) (A : Around) : Prop where
  rm : L2.Room k A
  gd : A.guards = some []
theorem Room.mono {j k : Nat} {A : Around} (r : Room k A) (h : j ≤ k) : Room j A := ⟨r.rm.mono h, r.gd⟩
theorem Room.deeper {k : Nat} {A : Around} (r : Room (k + 1) A) (env : Env) : Room k (A.deeper env) := ⟨r.rm.deeper env, r.gd⟩
theorem Room.in1 {k : Nat} {A : Around} (r : Room (k + 1) A) : Room k A.in1 := ⟨r.rm.in1, r.gd⟩
theorem make_gd {A : Around} {C : Addr} {us : List Value} {kw : List (Str × Value)} : (A.under (.builtin "type.__call__" ⟨.ref C :: us, kw⟩)).guards = A.guards := by
  obtain ⟨a, b, c, d, e⟩ := A
  cases d <;> simp [Around.under, Code.guards, Code.isGuard, pushGuards, guardIds]
theorem Room.make {k : Nat} {A : Around} (r : Room (k + 1) A) (C : Addr) (us : List Value) (kw : List (Str × Value)) : Room k (A.under (.builtin "type.__call__" ⟨.ref C :: us, kw⟩)) :=
  ⟨r.rm.make C us kw, make_gd.trans r.gd⟩
theorem Room.hd {k : Nat} {A : Around} (r : Room k A) : A.handled = none := r.rm.hd
theorem Room.depth {k : Nat} {A : Around} (r : Room k A) : A.depth < recursionLimit := r.rm.depth
theorem Room.units {k : Nat} {A : Around} (r : Room k A) : A.units + 64 < cLine := r.rm.units
theorem Room.units0 {k : Nat} {A : Around} (r : Room k A) : A.units < cLine := r.rm.units0
structure FnOk (P : Program) (w : World) (K : PySem.W.Frag) (mg : Str → Option Value) (base : Heap) (CX : CXT) (k : Nat) (f : Addr) (fd : FuncData) (ps : List Str) (sp : Sp) : Prop where
  len : ∀ vs H Q E, sp vs H Q E → vs.length = ps.length
  run : ∀ (A : Around) (outer : List Env) (s : Shared) (H : Hp) (args : Args) (us : List Value) (vs : List V) (Q : VK) (E : XK), Room k A → Env0 P w K mg base A outer s H → BindsTo s fd args (ps.zip us) → Vals vs us → sp vs H Q E →
    codeAny (model P w) A (.call (.ref f) args) (CR CX outer P w H s Q E) s
section
variable {X : Cx} {CX : CXT} {k : Nat} {f : Addr} {fd : FuncData} {ps : List Str} {sp : Sp} {dvs : List V} {ds : List Value} {E : St → XK} {x : Str} {p pos : Pos} {e : Expr} {es : List Expr} {t : TA}
theorem cr_here {CX : CXT} {Ex : XK} {pins : List (Addr × Obj)} {σ : St} {H : Hp} {s : Shared} {Q : VK} (hx : PassesAt CX X σ Ex) (I : Inv X pins σ H s) {r : Result} {s' : Shared} (h : CR CX X.stack X.prog X.w H s Q Ex r s') :
    match r with
    | .ok (.ret u) => EP X pins σ Q u s'
    | .ok _ => False
    | .error er => X.xe er s' := by
  cases r with
  | error er => exact hx pins H s er s' I h
  | ok fl => cases fl with
    | ret u => exact I.after h
    | _ => exact h
theorem run_any {pins : List (Addr × Obj)} {σ : St} {H : Hp} {s : Shared} {Q : VK} {kw : List (Str × Value)} {us al : List Value} {vs : List V} {Ex : XK} (F : FnOk X.prog X.w X.K X.mg X.base CX k f fd ps sp) (hr : Room k X.A)
    (hx : PassesAt CX X σ Ex) (I : Inv X pins σ H s) (hb : al.length = ps.length → BindsTo s fd ⟨us, kw⟩ (ps.zip al)) (r : Vals vs al) (h : sp vs H Q Ex) : wpAny (model X.prog X.w) X.A (call (.ref f) us kw) (EP X pins σ Q) X.xe s := by
  refine wpAny_call (codeAny_mono (F.run X.A X.stack s H ⟨us, kw⟩ al vs Q Ex hr I.env0 (hb (by rw [← r.length]; exact F.len _ _ _ _ h)) r h) fun r s' hq => ?_)
  have z := cr_here hx I hq
  cases r with
  | error er => exact z
  | ok fl => cases fl with
    | ret u => exact z
    | _ => exact z.elim
theorem run_fnSD {pins : List (Addr × Obj)} {σ : St} {H : Hp} {s : Shared} {Q : VK} {us : List Value} {vs : List V} (F : FnOk X.prog X.w X.K X.mg X.base CX k f fd ps sp) (hr : Room k X.A) (hb : Binds X.K fd ps ds) (hd : Vals dvs ds) (hx : PassesAt CX X σ (E σ))
    (I : Inv X pins σ H s) (r : Vals vs us) (h : sp (vs ++ dvs) H Q (E σ)) : wpAny (model X.prog X.w) X.A (call (.ref f) us) (EP X pins σ Q) X.xe s :=
  run_any F hr hx I (fun hl => hb s us I.kIn hl) (r.append hd) h
theorem pe_callSD (F : FnOk X.prog X.w X.K X.mg X.base CX k f fd ps sp) (hr : Room k X.A) (hg : Gl X x) (hm : X.mg x = some (.ref f)) (hk : PySem.W.keepIn X.K (.ref f) = true) (hb : Binds X.K fd ps ds) (hd : Vals dvs ds) (hx : ∀ σ, PassesAt CX X σ (E σ))
    (ha : PA X (e :: es) t) (hdb : (x == ("__debug__" : Str)) = false := by decide) (he : starEach (e :: es) X.env = (false, eval e X.env) :: starEach es X.env := by rfl) (hpl : (backTo pos (starEach es X.env)).any (·.1) = false := by rfl) :
    PE X (.Call (.Name x p) (e :: es) [] pos) (tCallSD sp dvs E t) :=
  ⟨fun pins s σ H Q I h => wpAny_Call_Name_kw (ld_glob I hg hm (PySem.W.callWith_K (h₀ := X.base) I.ok.mod.kin hk (thn (ha.run pos pins s σ H _ I h) fun us s1 ⟨vs, H1, I1, r, q⟩ => ⟨I1.kIn, run_fnSD F hr hb hd (hx σ) I1 r q⟩) he hpl) hdb)⟩
end
section
variable {X : Cx} {CX : CXT} {k : Nat} {a C p g dx : Addr} {f : Str} {fd : FuncData} {ps : List Str} {sp : Sp} {dvs : List V} {ds : List Value} {E : XK} {fs : List (Str × V)}
theorem getprop_ok {pins : List (Addr × Obj)} {σ : St} {H : Hp} {s : Shared} {Q : VK} {b : Bool} {E' : Value → Shared → Prop} (I : Inv X pins σ H s) (ea : H a = some (.ins C dx fs)) (c : Cls X.K C) (hp : PropOf X.K C f p g)
    (F : FnOk X.prog X.w X.K X.mg X.base CX k g fd ps sp) (hr : Room (k + 1) X.A) (hb : Binds X.K fd ps ds) (hd : Vals dvs ds) (hx : Passes CX X.nox E) (h : sp (.ref a :: dvs) H Q E) :
    wpAny (model X.prog X.w) X.A (getAttr (.ref a) f b) (EP X pins σ Q) E' s := by
  obtain ⟨_, O, _⟩ := ins_get I.hok ea
  obtain ⟨_, J, _⟩ := O.look
  obtain ⟨_, hrec⟩ := hp.rec_
  have J1 := I.tok (s.toks + 1)
  have hc : (PySem.W.clsIn X.K C).isSome = true := by obtain ⟨_, hc, _⟩ := PySem.W.any_some c.hd; rw [hc]; rfl
  have hl : ([Value.ref a] ++ ds).length = ps.length := by
    have := F.len _ _ _ _ h
    simp only [List.length_append, List.length_cons, List.length_nil] at this ⊢
    rw [← hd.length]; omega
  refine PySem.W.get_bind I.kIn J (PySem.W.plainGet_of (c.get f)).1 (PySem.W.findObj_data hc hp.at_ hp.get hp.tak) (PySem.W.plainGet_of (c.get f)).2 (wpAny_call (PySem.W.prop_get (s := { s with toks := s.toks + 1 }) I.kIn hrec
    (codeAny_mono (F.run X.A.in1 X.stack { s with toks := s.toks + 1 } H ⟨[.ref a], []⟩ (.ref a :: ds) (.ref a :: dvs) Q E hr.in1 J1.env0.in1 (hb _ [.ref a] J1.kIn hl) (.cons rfl hd) h) fun r s' hq => ?_)))
  cases r with
  | error er => exact (hx pins σ H { s with toks := s.toks + 1 } er s' (J1.wish _) hq).elim
  | ok fl => cases fl with
    | ret u =>
      obtain ⟨v, H', J3, rv, q3⟩ := J1.after hq
      show wpAny _ _ (handedOut u) _ _ _
      rw [PySem.W.handedOut_of (handed_of rv)]
      exact wpAny_pure ⟨v, H', J3, rv, q3⟩
    | _ => exact (show False from hq).elim
end
theorem fn_of {CX : CXT} {P : Program} {w : World} {K : PySem.W.Frag} {mg : Str → Option Value} {base : Heap} {k : Nat} {f : Addr} {name qual : Str} {params : Arguments} {body : List Stmt} {scope : Scope} {dvs : List V} {kws : List (Str × V)} {fd : FuncData} {N ps : List Str} {sp : Sp}
    (Fd : FunD K name qual params body scope dvs kws f fd) (S : FnScope N ps scope) (len : ∀ vs H Q E, sp vs H Q E → vs.length = ps.length)
    (hbody : ∀ (cdv : Value) (A : Around) (outer : List Env) (s : Shared) (H : Hp) (vs : List V) (Q : VK) (E : XK), Room k (A.deeper (envOfC qual scope s.heap.objs.size f cdv)) → sp vs H Q E →
      ∃ t, PSs (cxOf CX P w K mg base N qual scope f cdv A outer s H E) body t ∧ t { nx := fun _ H' => Q .non H', rt := Q } (start N vs) H) : FnOk P w K mg base CX (k + 1) f fd ps sp := by
  obtain ⟨oc, od, dV, kV, doc, pm, an, cdv, ct, osl, rfl, lk, hcd, _, _⟩ := Fd.ex
  refine ⟨len, fun A outer s H args us vs Q E hr e0 hb r hsp => ?_⟩
  have keep : ∀ (b : Addr) (o : Obj), base.get? b = some o → s.heap.get? b = some o := fun b o e => (e0.bs b o e).1
  have KX : K.In s.heap := e0.mod.kin.keeps keep
  have kinds : ∀ y ∈ ps.zip us, scope.names.lookup y.1 = some .local ∨ (scope.names.lookup y.1 = some .cell ∧ ((cellsFrom (s.heap.objs.size + 1) scope.names []).lookup y.1).isSome = true) := by
    rintro ⟨n, v⟩ hy
    exact (S.par n (List.of_mem_zip hy).1).imp_right fun q => ⟨q, PySem.W.cellsFrom_some _ _ _ (.inl q)⟩
  refine codeAny_call_function hr.depth (KX _ _ lk) rfl S.co S.gen rfl (PySem.W.codeRec_of KX hcd) (hb _ _ _ _ (wpAny_newFunctionEnv_cells S.kind kinds fun env he s1 x => ?_))
  subst he
  obtain ⟨t, ht, hq⟩ := hbody cdv A outer s H vs Q E (hr.deeper _) hsp
  have I : Inv (cxOf CX P w K mg base N qual scope f cdv A outer s H E) [] (start N vs) H s1 := inv_start S hr.hd e0 (len _ _ _ _ hsp) r x
  refine ⟨(e0.mod.nolimit.keeps keep).keeps x.toInCall.keep, codeAny_func (wpAny_mono (ht.run [] s1 (start N vs) H _ I hq) (fun fl s' hs => ?_) fun e s' hs => hs)⟩
  cases fl with
  | ret u =>
    obtain ⟨v, σ', H', J, rv, q⟩ := hs
    exact ⟨v, H', J.os, J.bare, J.base, J.hok, rv, q⟩
  | next =>
    obtain ⟨σ', H', J, q⟩ := hs
    exact ⟨.non, H', J.os, J.bare, J.base, J.hok, rfl, q⟩
  | brk => obtain ⟨_, _, _, q⟩ := hs; exact q.elim
  | cont => obtain ⟨_, _, _, q⟩ := hs; exact q.elim
end MP
set_option maxRecDepth 100000
set_option maxHeartbeats 1000000
namespace MP
open PySem PySem.Spec PyProof.Rows L2
variable [TabsP] [ThkP]
section
variable {X : Cx} {W : WX} {K : PySem.W.Frag} {E : XK} {DR : DRel} {N0 : Ent} {H0 F H : Hp} {Ad : List Addr} {M : List D} {env : EnvM} {σ : St} {Q : VK} {x : V} {a : Expr} {fa : EF} {pos : Pos} {f : Str}
def Op1E (X : Cx) (W : WX) (DR : DRel) (f : Value → Sem Value) (g : D → List D → R) : Prop :=
  ∀ (pins : List (Addr × Obj)) (s : Shared) (σ : St) (H F : Hp) (Ad : List Addr) (M : List D) (x : V) (v : Value) (dx : D) (Q : VK), Inv X pins σ H s → MemOk X.K F Ad M H → RelV x v → Den X.K F Ad x dx →
    RP X.K (fun c d H => W c d σ H) DR F Ad H Q (g dx M) → wpAny (model X.prog X.w) X.A (f v) (EP X pins σ Q) X.xe s
theorem Op1.e {f : Value → Sem Value} {g : D → List D → R} (h : Op1 X DR f g) : Op1E X W DR f g := fun pins s σ H F Ad M x v dx Q I m rx hx r => h pins s σ H F Ad M _ x v dx Q I m rx (.inl hx) r
theorem s_attrB (dr : DRok DR) {g : D → List D → R} (ho : Op1 X DR (fun v => getAttr v f true) g) (ha : SB X W a fa) (hb : attributeBase a f X.env (eval a X.env) = eval a X.env := by rfl) : PE X (.Attribute a f pos) (tG X.K W DR (e1 g fa)) := by
  refine ⟨fun pins s σ H Q I ⟨N0, F, Ad, M, env, m, en, r⟩ => ?_⟩
  refine attr_of hb (thn (ha.run pins s σ H _ I (tG_seq (Q' := fun v H1 => ∃ F1 Ad1 M1 d, MemOk X.K F1 Ad1 M1 H1 ∧ DB X.K H1 F1 Ad1 H1 v d ∧ RP X.K (fun c d H => W c d σ H) DR F1 Ad1 H1 Q (g d M1)) dr m en r fun d M1 v F1 Ad1 H1 g1 m1 en1 x1 r1 => ⟨F1, Ad1, M1, d, m1, x1, r1⟩)) fun u s1 ⟨x, H1, I1, rx, F1, Ad1, M1, d, m1, x1, r1⟩ => ?_)
  exact ho pins s1 σ H1 F1 Ad1 M1 _ x u d Q I1 m1 rx x1 r1
theorem s_attr (dr : DRok DR) {g : D → List D → R} (ho : Op1E X W DR (fun v => getAttr v f true) g) (ha : SE X W a fa) (hb : attributeBase a f X.env (eval a X.env) = eval a X.env := by rfl) : PE X (.Attribute a f pos) (tG X.K W DR (e1 g fa)) := by
  refine ⟨fun pins s σ H Q I ⟨N0, F, Ad, M, env, m, en, r⟩ => ?_⟩
  refine attr_of hb (thn (ha.run pins s σ H _ I (tG_seq (Q' := fun v H1 => ∃ F1 Ad1 M1 d, MemOk X.K F1 Ad1 M1 H1 ∧ Den X.K F1 Ad1 v d ∧ RP X.K (fun c d H => W c d σ H) DR F1 Ad1 H1 Q (g d M1)) dr m en r fun d M1 v F1 Ad1 H1 g1 m1 en1 x1 r1 => ⟨F1, Ad1, M1, d, m1, x1, r1⟩)) fun u s1 ⟨x, H1, I1, rx, F1, Ad1, M1, d, m1, x1, r1⟩ => ?_)
  exact ho pins s1 σ H1 F1 Ad1 M1 x u d Q I1 m1 rx x1 r1
structure ClsF (K : PySem.W.Frag) (c : Str) (fs : List Str) : Prop where
  cls : Cls K (He.ga K c)
  no : ∀ f ∈ fs, NoAttr K (He.ga K c) f
def fldR (c f : Str) (x : D) (M : List D) : R := match view M x with
  | .ins c' fs => if c' = c then (match fs.lookup f with | some d => .ok d M | none => .stuck) else .stuck
  | _ => .stuck
theorem op1_fld {c : Str} (hc : Cls X.K (He.ga X.K c)) (hn : NoAttr X.K (He.ga X.K c) f) : Op1 X (DE X.K) (fun v => getAttr v f true) (fldR c f) := by
  intro pins s σ H F Ad M E x v dx Q I m rx hx r
  have ax := DB.view m hx
  unfold fldR at r
  split at r
  · rename_i c' fs e
    split at r
    · rename_i ec
      subst ec
      split at r
      · rename_i dd e2
        rw [e] at ax
        obtain ⟨p, dx, vs, rfl, h1, d1⟩ := ax.ins m
        obtain ⟨w, e3, e4⟩ := d1.lookup e2
        obtain rfl : v = Value.ref p := rx
        exact getattr_ok I h1 hc hn e3 fun u s' I' ru => ⟨w, H, I', ru, RP.here r m e4⟩
      · exact r.elim
    · exact r.elim
  · exact r.elim
def spD (K : PySem.W.Frag) (DR : DRel) (n : Nat) (c : List D → List D → R) : Sp := fun vs H Q E => vs.length = n ∧ ∃ F Ad M ds, MemOk K F Ad M H ∧ DenL K F Ad vs ds ∧ RP K E DR F Ad H Q (c ds M)
def spI (K : PySem.W.Frag) (cn : Str) (n : Nat) (c : List D → List D → R) : Sp := fun vs H Q E => vs.length = n + 1 ∧ ∃ x dx rest HH F Ad M ds, vs = .ref x :: rest ∧ H = upd (upd HH dx (.own x)) x (.ins (He.ga K cn) dx []) ∧ HH x = none ∧ HH dx = none ∧ dx ≠ x ∧
  MemOk K F Ad M HH ∧ DenL K F Ad rest ds ∧ RP K E (DO K) F Ad HH (fun v H' => v = .ref x → Q .non H') (c ds M)
abbrev Pas (X : Cx) (W : WX) : Prop := ∀ σ, PassesAt (L2.CX X.prog X.w) X σ (WE W σ)
def WN : WX := fun _ _ _ _ => False
theorem pas_no : Pas X WN := fun _ _ _ _ _ _ _ ⟨_, _, _, _, _, _, _, _, _, _, _, _, w⟩ => w.elim
structure FnK (P : Program) (w : World) (K : PySem.W.Frag) (mg : Str → Option Value) (base : Heap) (DR : DRel) (k n : Nat) (g : Addr) (dd : List D) (c : List D → List D → R) : Prop where
  ex : ∃ (fd : FuncData) (ps : List Str) (dvs : List V) (us : List Value), FnOk P w K mg base (L2.CX P w) k g fd ps (spD K DR n c) ∧ Binds K fd ps us ∧ Vals dvs us ∧ (∀ F Ad, DenL K F Ad dvs dd) ∧ PySem.W.keepIn K (.ref g) = true
abbrev FnX (X : Cx) (DR : DRel) (k n : Nat) (g : Addr) (dd : List D) (c : List D → List D → R) : Prop := FnK X.prog X.w X.K X.mg X.base DR k n g dd c
def apC (c : List D → List D → R) (n : Nat) (dd xs M : List D) : R := if (xs ++ dd).length = n then c (xs ++ dd) M else .stuck
theorem spD_of {n : Nat} {c : List D → List D → R} {vs dvs : List V} {ds dd : List D} (m : MemOk K F Ad M H) (x : DenL K F Ad vs ds) (h : ∀ F Ad, DenL K F Ad dvs dd) (r : RP K E DR F Ad H Q (apC c n dd ds M)) : spD K DR n c (vs ++ dvs) H Q E := by
  unfold apC at r
  split at r
  · rename_i hn
    have l := (x.append (h F Ad)).length
    exact ⟨by rw [l]; exact hn, F, Ad, M, _, m, x.append (h F Ad), r⟩
  · exact r.elim
variable {k n : Nat} {g : Addr} {dd : List D} {c : List D → List D → R} {es : List Expr} {e : Expr} {l : LF} {y m : Str} {p apos : Pos}
theorem run_fnK {pins : List (Addr × Obj)} {s : Shared} {us : List Value} {vs : List V} {ds : List D} (Fk : FnX X DR k n g dd c) (hr : Room k X.A) (hx : Pas X W) (I : Inv X pins σ H s) (mm : MemOk X.K F Ad M H) (r : Vals vs us) (x : DenL X.K F Ad vs ds)
    (h : RP X.K (fun c d H => W c d σ H) DR F Ad H Q (apC c n dd ds M)) : wpAny (model X.prog X.w) X.A (call (.ref g) us) (EP X pins σ Q) X.xe s := by
  obtain ⟨fd, ps, dvs, ws, Fo, hb, hv, hd, hk⟩ := Fk.ex
  exact run_fnSD Fo hr hb hv (hx σ) I r (spD_of mm x hd h)
theorem s_call (dr : DRok DR) (Fk : FnX X DR k n g dd c) (hr : Room k X.A) (hx : Pas X W) (hg : Gl X y) (hm : X.mg y = some (.ref g)) (ha : SL X W (e :: es) l) (hdb : (y == ("__debug__" : Str)) = false := by decide)
    (he : starEach (e :: es) X.env = (false, eval e X.env) :: starEach es X.env := by rfl) (hpl : (backTo pos (starEach es X.env)).any (·.1) = false := by rfl) : PE X (.Call (.Name y p) (e :: es) [] pos) (tG X.K W DR (eCall (apC c n dd) l)) := by
  obtain ⟨fd, ps, dvs, ws, Fo, hb, hv, hd, hk⟩ := Fk.ex
  refine PE.imp (pe_callSD Fo hr hg hm hk hb hv hx ha hdb he hpl) fun σ H Q ⟨N0, F, Ad, M, env, m, en, r⟩ => ?_
  refine tL_seq dr m en r fun ds M1 vs F1 Ad1 H1 g1 m1 en1 x1 r1 => ?_
  exact spD_of m1 x1 hd r1
def eMeth (cn m : Str) (c : List D → List D → R) (n : Nat) (dd : List D) (o : EF) (l : LF) : EF := fun env M => (o env M).bind fun x M1 => match view M1 x with
  | .ins c' fs => if c' = cn ∧ fs.lookup m = none then (l env M1).bind fun xs M2 => apC c n dd (x :: xs) M2 else .stuck
  | _ => .stuck
theorem s_meth0 (dr : DRok DR) {cn : Str} {pl : Sem Bool} {o : Expr} {fo : EF} (hc : Cls X.K (He.ga X.K cn)) (hm : Meth X.K (He.ga X.K cn) m g) (Fk : FnX X DR k n g dd c) (hr : Room k X.A) (hx : Pas X W) (ho : SE X W o fo)
    (ht : eval (.Call (.Attribute o m apos) [] [] pos) X.env = (do
      let ov ← eval o X.env
      standAt apos.atName
      let (f, first) ← holding [ov] (getMethod ov m pl)
      callWith pos f first (backTo pos (starEach [] X.env)) (backToKw pos (keywordEach [] X.env))) := by rfl) : PE X (.Call (.Attribute o m apos) [] [] pos) (tG X.K W DR (eMeth cn m c n dd fo lNil)) := by
  refine ⟨fun pins s σ H Q I ⟨N0, F, Ad, M, env, mm, en, r⟩ => ?_⟩
  refine PySem.W.methodCall_KW (pl := pl) (thn (ho.run pins s σ H _ I (tG_seq dr mm en r (Q' := fun v H1 => ∃ F1 Ad1 M1 d, MemOk X.K F1 Ad1 M1 H1 ∧ Den X.K F1 Ad1 v d ∧ EnvOk X.K N0 F1 Ad1 H1 σ env ∧ RP X.K (fun c d H => W c d σ H) DR F1 Ad1 H1 Q (match view M1 d with
    | .ins c' fs => if c' = cn ∧ fs.lookup m = none then (lNil env M1).bind fun xs M2 => apC c n dd (d :: xs) M2 else .stuck
    | _ => .stuck)) fun d M1 v F1 Ad1 H1 g1 m1 en1 x1 r1 => ⟨F1, Ad1, M1, d, m1, x1, en1, r1⟩)) fun u s1 ⟨x, H1, I1, rx, F1, Ad1, M1, d, m1, x1, en1, r1⟩ => ?_) ht
  have ax := DB.view m1 (H0 := H1) (.inl x1 : DB X.K H1 F1 Ad1 H1 x d)
  split at r1
  · rename_i c' fs e
    split at r1
    · rename_i ec
      obtain ⟨ec, en⟩ := ec
      subst ec
      rw [e] at ax
      obtain ⟨q, dx, vs, rfl, h1, d1⟩ := ax.ins m1
      obtain rfl : u = Value.ref q := rx
      refine getmeth_ok I1 h1 hc hm (d1.none en) ?_
      refine PySem.W.callWith_K0 (first := [.ref q]) I1.kIn hm.kp ?_
      exact run_fnK (us := [.ref q]) (vs := [.ref q]) Fk hr hx I1 m1 (.cons rfl .nil) (.cons x1 .nil) r1
    · exact r1.elim
  · exact r1.elim
def noX (r : R) : R := match r with
  | .exc _ _ => .stuck
  | r => r
def propR (cn : Str) (c : List D → List D → R) (x : D) (M : List D) : R := match view M x with
  | .ins c' _ => if c' = cn then noX (apC c 1 [] [x] M) else .stuck
  | _ => .stuck
theorem op1_prop {cn : Str} {q : Addr} (hc : Cls X.K (He.ga X.K cn)) (hp : PropOf X.K (He.ga X.K cn) f q g) (Fk : FnX X DR k 1 g [] c) (hr : Room (k + 1) X.A) : Op1E X W DR (fun v => getAttr v f true) (propR cn c) := by
  intro pins s σ H F Ad M x v dx Q I m rx hx r
  have ax := DB.view m (H0 := H) (.inl hx : DB X.K H F Ad H x dx)
  unfold propR at r
  split at r
  · rename_i c' fs e
    split at r
    · rename_i ec
      subst ec
      rw [e] at ax
      obtain ⟨p, dx', vs, rfl, h1, d1⟩ := ax.ins m
      obtain rfl : v = Value.ref p := rx
      obtain ⟨fd, ps, dvs, ws, Fo, hb, hv, hd, hk⟩ := Fk.ex
      refine getprop_ok (E := fun _ _ _ => False) I h1 hc hp Fo hr hb hv (fun _ _ _ _ _ _ _ ⟨_, _, _, _, _, _, _, _, _, _, _, _, w⟩ => w.elim) ?_
      have r' : RP X.K (fun _ _ _ => False) DR F Ad H Q (apC c 1 [] [dx] M) := by
        cases h : apC c 1 [] [dx] M with
        | ok d M1 => rw [h] at r; exact r
        | exc z M1 => rw [h] at r; exact r.elim
        | stuck => rw [h] at r; exact r.elim
      exact spD_of m (.cons hx .nil) hd r'
    · exact r.elim
  · exact r.elim
structure InK (P : Program) (w : World) (K : PySem.W.Frag) (mg : Str → Option Value) (base : Heap) (k n : Nat) (cn : Str) (g : Addr) (dd : List D) (c : List D → List D → R) : Prop where
  mak : Mk K (He.ga K cn) g
  ex : ∃ (fd : FuncData) (ps : List Str) (dvs : List V) (us : List Value), FnOk P w K mg base (L2.CX P w) k g fd ps (spI K cn n c) ∧ Binds K fd ps us ∧ Vals dvs us ∧ (∀ F Ad, DenL K F Ad dvs dd)
theorem run_makeS {C fI : Addr} {kk : Nat} {CX : CXT} {fd : FuncData} {ps : List Str} {sp : Sp} {dvs vs : List V} {ds us : List Value} {Ex : XK} {pins : List (Addr × Obj)} {s : Shared} (Mm : Mk X.K C fI) (Fo : FnOk X.prog X.w X.K X.mg X.base CX kk fI fd ps sp) (hr : Room (kk + 1) X.A) (hb : Binds X.K fd ps ds) (hd : Vals dvs ds)
    (hx : PassesAt CX X σ Ex) (I : Inv X pins σ H s) (r : Vals vs us)
    (h : ∀ x dx, H x = none → H dx = none → dx ≠ x → sp (.ref x :: (vs ++ dvs)) (upd (upd H dx (.own x)) x (.ins C dx [])) (fun v H2 => v = .non ∧ Q (.ref x) H2) Ex) :
    wpAny (model X.prog X.w) X.A (call (.ref C) us) (EP X pins σ Q) X.xe s := by
  obtain ⟨x, hxx⟩ : ∃ x, x = s.heap.objs.size + 1 := ⟨_, rfl⟩
  have fresh1 := I.hok.fresh (Nat.le_succ s.heap.objs.size)
  have fresh0 := I.hok.fresh (Nat.le_refl s.heap.objs.size)
  have sp1 := h (s.heap.objs.size + 1) s.heap.objs.size fresh1 fresh0 (Nat.ne_of_lt (Nat.lt_succ_self _))
  have J := Inv.made (C := C) I
  have rr : Vals (V.ref (s.heap.objs.size + 1) :: (vs ++ dvs)) (Value.ref (s.heap.objs.size + 1) :: (us ++ ds)) := Paired.cons rfl (r.append hd)
  have ll : (Value.ref (s.heap.objs.size + 1) :: us ++ ds).length = ps.length := (rr.length.symm).trans (Fo.len _ _ _ _ sp1)
  have bb := hb { s with heap := (s.heap.push PySem.W.emptyDict).push (PySem.W.instObj C s.heap.objs.size) } (Value.ref (s.heap.objs.size + 1) :: us) J.kIn ll
  apply wpAny_call
  apply make_map (f := fI) I.kIn Mm.makes Mm.init (beq_iff_eq.mp Mm.fn)
  refine codeAny_mono (Fo.run _ X.stack _ _ _ _ _ _ _ (hr.make C us []) (J.env0.make C us []) bb rr sp1) ?_
  intro res s' done
  cases res with
  | error e => exact hx pins _ _ e s' J done
  | ok fl =>
    cases fl with
    | ret u =>
      obtain ⟨v, H', J', rv, ev, q⟩ := J.after done
      cases ev
      exact ⟨rv, V.ref (s.heap.objs.size + 1), H', J', rfl, q⟩
    | next => exact done.elim
    | brk => exact done.elim
    | cont => exact done.elim
theorem so_make {cn : Str} (Ik : InK X.prog X.w X.K X.mg X.base k n cn g dd c) (hr : Room (k + 1) X.A) (hx : Pas X W) (hg : Gl X y) (hm : X.mg y = some (.ref (He.ga X.K cn))) (ha : SL X W (e :: es) l) (hdb : (y == ("__debug__" : Str)) = false := by decide)
    (he : starEach (e :: es) X.env = (false, eval e X.env) :: starEach es X.env := by rfl) (hpl : (backTo pos (starEach es X.env)).any (·.1) = false := by rfl) : SO X W (.Call (.Name y p) (e :: es) [] pos) (eCall (apC c n dd) l) := by
  obtain ⟨fd, ps, dvs, ws, Fo, hb, hv, hd⟩ := Ik.ex
  refine ⟨fun pins s σ H Q I ⟨N0, F, Ad, M, env, m, en, r⟩ => ?_⟩
  refine wpAny_Call_Name_kw (ld_glob I hg hm ?_ hdb)
  refine PySem.W.callWith_K (h₀ := X.base) I.ok.mod.kin Ik.mak.kp (thn (ha.run pos pins s σ H _ I (tL_seq DO.ok m en r (Q' := fun vs H2 => ∃ F2 Ad2 M2 ds, MemOk X.K F2 Ad2 M2 H2 ∧ DenL X.K F2 Ad2 vs ds ∧ RP X.K (fun c d H => W c d σ H) (DO X.K) F2 Ad2 H2 Q (apC c n dd ds M2)) fun ds M2 vs F2 Ad2 H2 g2 m2 en2 x2 r2 =>
        ⟨F2, Ad2, M2, ds, m2, x2, r2⟩)) fun us s1 ⟨vs, H1, I1, r, F2, Ad2, M2, ds, m2, x2, r2⟩ => ⟨I1.kIn, ?_⟩) he hpl
  refine run_makeS Ik.mak Fo hr hb hv (hx σ) I1 r fun x dx hx0 hd0 hne => ?_
  unfold apC at r2
  split at r2
  · rename_i hn
    have x3 := x2.append (hd F2 Ad2)
    refine ⟨by show (vs ++ dvs).length + 1 = n + 1; rw [x3.length, hn], x, dx, _, H1, F2, Ad2, M2, _, rfl, rfl, hx0, hd0, hne, m2, x3, ?_⟩
    cases hq : c (ds ++ dd) M2 with
    | ok d M3 =>
      rw [hq] at r2
      intro v F' Ad' H' g' m' z ev
      subst ev
      exact ⟨rfl, r2 _ F' Ad' H' g' m' z⟩
    | exc z M3 => rw [hq] at r2; exact r2
    | stuck => rw [hq] at r2; exact r2.elim
  · exact r2.elim
end
end MP
set_option maxRecDepth 100000
set_option maxHeartbeats 1000000
namespace MP
open PySem PySem.Spec PyProof.Rows L2
variable [TabsP] [ThkP]
set_option maxHeartbeats 4000000 in
theorem enum1_meets {v : Value} {o : Obj} {G : Heap → Prop} (B : Begins v o G) : Meets (Builtin.«enumerate.__new__» ⟨[.type "enumerate", v], []⟩) (fun _ R s => G s.heap ∧
      R (.ok (.ret (.ref (s.heap.push o).objs.size))) { s with heap := (s.heap.push o).push { cls := .type "enumerate", data := .fields #[.none, .bool false, .ref s.heap.objs.size, rawInt 0, .none, .none] } }) := by
  refine .of_wp fun P w A R s hs => ?_
  obtain ⟨hp, gg, dd, tt, oo⟩ := s
  obtain ⟨hG, hR⟩ := hs
  have hsub := sub_enumerate
  have it1 : ∀ {A2 : Around} {E2 : Value → Shared → Prop} {Q2 : Value → Shared → Prop}, Q2 (.ref hp.objs.size) ⟨hp.push o, gg, dd, tt, oo⟩ → wpAny (model P w) A2 (pyIter v) Q2 E2 ⟨hp, gg, dd, tt, oo⟩ := fun hq =>
    B.iter P w _ _ ⟨hp, gg, dd, tt, oo⟩ _ hG hq
  wp_walk using it1
  refine wpAny_stack_any fun st => wpAny_pure ?_
  split
  · rename_i cc _ _ _ _ _
    cases (cc == Value.type "enumerate") <;> (wp_walk using it1; exact ⟨_, rfl, hR⟩)
  · wp_walk using it1
    exact ⟨_, rfl, hR⟩
theorem enum1_call {P : Program} {w : World} {A : Around} {E : Value → Shared → Prop} {s : Shared} {v : Value} {o : Obj} {G : Heap → Prop} {Q : Value → Shared → Prop} (B : Begins v o G) (hG : G s.heap)
    (h : ∀ h', IsEnum h' (s.heap.objs.size + 1) s.heap.objs.size 0 .none → h'.get? s.heap.objs.size = some o → (∀ b u, s.heap.get? b = some u → h'.get? b = some u) → Q (.ref (s.heap.objs.size + 1)) { s with heap := h' }) :
    wpAny (model P w) A (call (.type "enumerate") [v]) Q E s := by
  refine callType_new F.called_enumerate (by decide) (F.typeCall_enumerate_1 _) (F.newCall_enumerate_1 _) (fun obj => F.args_object_init_2 obj _) F.entry_enumerate_new (enum1_meets B) ⟨hG, ?_⟩
  have z1 : (s.heap.push o).objs.size = s.heap.objs.size + 1 := Heap.size_push ..
  have ie := Heap.get?_push_size (s.heap.push o) (o := { cls := .type "enumerate", data := .fields #[.none, .bool false, .ref s.heap.objs.size, rawInt 0, .none, .none] }) rfl
  show _ ∧ _
  rw [z1] at ie ⊢
  exact ⟨⟨_, ie, rfl⟩, h _ ie (Heap.get?_push_of_some _ (Heap.get?_push_size _ B.free)) fun b u q => Heap.get?_push_of_some _ (Heap.get?_push_of_some _ q)⟩
def IteT (K : PySem.W.Frag) (a : Addr) : It where
  go := fun i H => ∃ (xs : List V) (x : V), SqT K H a xs ∧ xs[i]? = some x
  yld := fun i H v H' => ∃ T x, v = .ref T ∧ H T = none ∧ H' = upd H T (.tup [.int (i : Nat), x]) ∧ ∀ xs, SqT K H a xs → xs[i]? = some x
  stop := fun i H => ∃ xs : List V, SqT K H a xs ∧ xs.length = i
theorem tup_ne {h : Heap} {a it t : Addr} {i : Nat} {xs : Array Value} (p : h.IsTuple a xs) (q : h.IsTupleIter it t i) : a ≠ it := fun e => by
  obtain ⟨o, h1, h2, _⟩ := p
  obtain ⟨o', h3, h4, _⟩ := q
  rw [e, h3] at h1
  cases h1
  rw [h4] at h2
  exact absurd h2 (by decide)
theorem tup_neE {h : Heap} {a e it : Addr} {i : Int} {old : Value} {xs : Array Value} (p : h.IsTuple a xs) (q : IsEnum h e it i old) : e ≠ a := fun z => by
  obtain ⟨o, h1, h2, _⟩ := p
  rw [← z] at h1
  have q' : h.get? e = some _ := q
  rw [q'] at h1
  cases h1
  injection h2 with h2
  exact absurd h2 (by decide)
theorem turn_enumT {P : Program} {w : World} {K : PySem.W.Frag} {elts : List Expr} {kk : Nat} {tpos : Pos} (a e it : Addr) :
    Turn P w K (.Tuple elts kk tpos) (IteT K a) [e, it] e (fun i h => (∃ old, IsEnum h e it ((i : Nat) : Int) old) ∧ h.IsTupleIter it a i ∧ e ≠ it) where
  mem := List.mem_cons_self ..
  obj := by
    intro i h ⟨⟨old, he⟩, ⟨o, ho, hc, hd⟩, _⟩ b hb
    rcases (by simpa using hb : b = e ∨ b = it) with rfl | rfl
    · exact ⟨_, he, fun v q => nomatch q⟩
    · exact ⟨o, ho, fun v q => by rw [hd] at q; cases q⟩
  keep := by
    intro i h h' ⟨⟨old, he⟩, hi, hne⟩ k
    exact ⟨⟨old, k e (by simp) _ he⟩, hi.at fun o q => k it (by simp) o q, hne⟩
  item := by
    intro X hP hw hK hc i pins s σ H E I hf ⟨⟨old, he⟩, hit, hne⟩ ⟨xs, x, hq, hx⟩
    subst hP hw hK
    obtain ⟨its, rv, p, hz⟩ := I.tuple hq
    obtain ⟨u, hu, ru⟩ := rv.get hx
    have p' : s.heap.IsTuple a its.toArray := p
    have hel : e < s.heap.objs.size := Heap.lt_size he
    have hil : it < s.heap.objs.size := by obtain ⟨_, q, _⟩ := hit; exact Heap.lt_size q
    have n1 := tup_ne p' hit
    have n2 := tup_neE p' he
    have hu' : its[i]? = some u := hu
    have hlt : i < its.toArray.size := by
      rw [List.size_toArray]; exact (List.getElem?_eq_some_iff.mp hu').1
    refine wpAny_pyNext_enum_itemD (Draws.tuple (A := X.A.in1) (I.ok.hd hc) it a n1 its.toArray) he ⟨hit, p'⟩ hlt hne (by simp [hne, n2]) fun y h' tk hy ho st' hT hsz hk => ?_
    have hy : its.toArray[i]? = some y := hy
    have ey : y = u := by
      rw [List.getElem?_toArray, hu'] at hy; cases hy; rfl
    subst ey
    refine ⟨_, rfl, wpAny_letOwnedTupleGo_enum (s := { s with heap := h', toks := tk + 1 }) ho fun h'' he' sb => ?_⟩
    have hT2 : h''.get? s.heap.objs.size = some { cls := .type "tuple", data := .seq #[.int i tk, y] } := (sb.2 _ (Nat.ne_of_gt hel)).trans hT
    have ob : ObjOk X.prog X.w (upd H s.heap.objs.size (.tup [.int (i : Nat), x])) h'' s.heap.objs.size (.tup [.int (i : Nat), x]) :=
      ⟨by show 2 ≤ sizeLine; decide, [.int i tk, y], .cons ⟨_, rfl⟩ (.cons ru .nil), ⟨_, hT2, rfl, _, rfl⟩⟩
    have I1 : Inv X pins σ (upd H s.heap.objs.size (.tup [.int (i : Nat), x])) { s with heap := h'', toks := tk + 1 } :=
      I.turnedNew (ch := [e, it]) (fun b o hb q => (sb.2 b (fun z => hb (by simp [z]))).trans (hk b o (fun z => hb (by simp [z])) (fun z => hb (by simp [z])) q)) hf (Nat.le_refl _) ob
    refine ⟨.ref s.heap.objs.size, _, I1, rfl, ⟨_, x, rfl, I.hok.fresh (Nat.le_refl _), rfl, fun ys hys => by rw [I.tuple_inj hys hq]; exact hx⟩, ⟨⟨y, ?_⟩, st'.1.at fun o q => (sb.2 it (Ne.symm hne)).trans q, hne⟩, fun b hb => ?_⟩
    · rw [show ((i + 1 : Nat) : Int) = (i : Int) + 1 by omega]; exact he'
    · have hb' : b < s.heap.objs.size := by
        rcases (by simpa using hb : b = e ∨ b = it) with rfl | rfl
        · exact hel
        · exact hil
      rw [upd_ne (Nat.ne_of_lt hb')]
      exact (hf b hb).1
  done := by
    intro X hP hw hK hc i pins s σ H E I hf ⟨⟨old, he⟩, hit, hne⟩ ⟨xs, hq, hx⟩
    subst hP hw hK
    obtain ⟨its, rv, p, hz⟩ := I.tuple hq
    obtain ⟨f0, f1, f2, f3, f4, f5⟩ := hf it (by simp)
    have hl := rv.length
    have p' : s.heap.IsTuple a its.toArray := p
    have hsz : its.toArray.size = i := by rw [List.size_toArray]; omega
    have n1 := tup_ne p' hit
    rw [← hsz] at hit
    exact wpAny_pyNext_enum_endD (Draws.tuple (A := X.A.in1) (I.ok.hd hc) it a n1 its.toArray) he ⟨hit, p'⟩ fun h' eb => ⟨rfl, I.turned (t' := s.toks) (fun b o hb q => eb b o hb q) f0 f1 f3 f4 f5⟩
  self := fun A i s Q E st h => let ⟨⟨_, he⟩, _⟩ := st; wpAny_pyIter_enum he h
def iEnumT (K : PySem.W.Frag) (ta : TA) : TI := fun σ H R => ta σ H fun vs H1 => ∃ a xs, vs = [.ref a] ∧ SqT K H1 a xs ∧ R (IteT K a) H1
theorem pi_enumT {X : Cx} {e : Expr} {ta : TA} {p pos tpos : Pos} {elts : List Expr} {kk : Nat} (hg : Gl X "enumerate") (hm : X.mg "enumerate" = none) (ha : PA X [e] ta) (hs : starEach [e] X.env = [(false, eval e X.env)] := by rfl) :
    PI X (.Tuple elts kk tpos) (.Call (.Name "enumerate" p) [e] [] pos) (iEnumT X.K ta) := by
  refine ⟨fun pins s σ H R I h => ?_⟩
  refine Call_ (ld_blt I hg hm boot_enumerate ?_)
  refine PyProof.Rows.callWith_type1 (thn (ha.run pos pins s σ H _ I h) fun us s1 ⟨vs, H1, I1, r1, a, xs, ex, hq, q⟩ => ?_) hs rfl
  subst ex
  cases r1 with
  | cons r rr =>
    cases rr
    cases r
    obtain ⟨its, rv, p', hz⟩ := I1.tuple hq
    refine enum1_call (begins_tuple a its.toArray) p' fun h' he hit hk => wpAny_pyIter_enum he ?_
    have I2 : Inv X pins σ H1 { s1 with heap := h' } := I1.kept (t' := s1.toks) hk
    refine ⟨s1.heap.objs.size + 1, [s1.heap.objs.size + 1, s1.heap.objs.size], _, _, H1, rfl, I2, turn_enumT a (s1.heap.objs.size + 1) s1.heap.objs.size, ⟨⟨.none, he⟩, ⟨_, hit, rfl, rfl⟩, Nat.succ_ne_self _⟩, fun b hb => ?_, q⟩
    have hle : s1.heap.objs.size ≤ b := by
      rcases (by simpa using hb : b = s1.heap.objs.size + 1 ∨ b = s1.heap.objs.size) with rfl | rfl
      · exact Nat.le_succ _
      · exact Nat.le_refl _
    exact I1.fpOk hle (I1.hok.fresh hle)
end MP
set_option maxRecDepth 100000
set_option maxHeartbeats 1000000
namespace MP
open PySem PySem.Spec PyProof.Rows L2
variable [TabsP] [ThkP]
section
variable {X : Cx} {pins : List (Addr × Obj)} {σ : St} {H : Hp} {s : Shared} {d : Addr} {o : Obj}
theorem frzT2 {kvs : List (List Key × V)} (I : Inv X pins σ H s) (h : H d = some (.frz o (.dT kvs))) :
    (d == sysModules) = false ∧ s.heap.get? d = some o ∧ o.ExactDict ∧ ∃ (es : Array DictEntry) (ep : Nat), o.data = .dict es ep ∧ es.size = kvs.length ∧
      ∀ (j : Nat) (ks : List Key) (y : V), kvs[j]? = some (ks, y) → ∃ (en : DictEntry) (q : Addr), es[j]? = some en ∧ en.key = .ref q ∧ H q = some (.tup (ks.map kV)) ∧ RelV y en.val := by
  obtain ⟨e1, e2, e3, xs, pr, o2, es, ep, ho, e4, e5, e6, e7⟩ := I.hok d _ h
  rw [e1] at ho
  obtain rfl := Option.some.inj ho
  have z1 : es.size = xs.length := size_of_entries e6
  have z2 : kvs.length = xs.length := Paired.length pr
  refine ⟨e3, e1, e4, es, ep, e5, z1.trans z2.symm, fun j ks y e => ?_⟩
  obtain ⟨b, hb, p1, p2, p3⟩ := paired_get pr e
  have q := entry_at e6 j
  rw [hb] at q
  exact ⟨_, b.2.1, q, rfl, p2, p3⟩
end
def ItiT (d : Addr) (o : Obj) (kvs : List (List Key × V)) : It where
  go := fun i H => H d = some (.frz o (.dT kvs)) ∧ i < kvs.length
  yld := fun i H x H' => ∃ T q ks y, kvs[i]? = some (ks, y) ∧ x = .ref T ∧ H T = none ∧ H q = some (.tup (ks.map kV)) ∧ H' = upd H T (.tup [.ref q, y])
  stop := fun i H => H d = some (.frz o (.dT kvs)) ∧ kvs.length ≤ i
theorem turn_itemsT {P : Program} {w : World} {K : PySem.W.Frag} {d : Addr} {o : Obj} {es : Array DictEntry} {ep : Nat} {kvs : List (List Key × V)} {elts : List Expr} {kk : Nat} {tpos : Pos} (it : Addr) (hod : o.data = .dict es ep) :
    Turn P w K (.Tuple elts kk tpos) (ItiT d o kvs) [it] it (fun i h => ∃ ok ov, IsItemIter h it d i kvs.length ep ok ov) where
  mem := List.mem_singleton.mpr rfl
  obj := fun i h ⟨ok, ov, e⟩ b hb => by
    rw [List.mem_singleton.mp hb]; exact ⟨_, e, fun v z => nomatch z⟩
  keep := fun i h h' ⟨ok, ov, e⟩ k => ⟨ok, ov, k it (List.mem_singleton.mpr rfl) _ e⟩
  item := by
    rintro X rfl rfl rfl hc i pins s σ H E I hf ⟨ok, ov, st⟩ ⟨hd, hi⟩
    obtain ⟨e1, e2, e3, es2, ep2, e4, e5, e6⟩ := frzT2 I hd
    obtain ⟨rfl, rfl⟩ := dict_ep hod e4
    have hkv := List.getElem?_eq_getElem hi
    obtain ⟨en, q, g1, g2, g3, g4⟩ := e6 i _ _ hkv
    have hi2 : i < es2.size := by rw [e5]; exact hi
    have hen : es2[i] = en := Option.some.inj ((Array.getElem?_eq_getElem hi2).symm.trans g1)
    rw [← e5] at st
    have hlt : it < s.heap.objs.size := Heap.lt_size st
    refine DT.nextI st ⟨o, e2, e3, hod⟩ hi2 fun h1 ho hT hz hk => ⟨_, rfl, wpAny_letOwnedTupleGo_items (s := { s with heap := h1 }) ho fun h2 hit sb => ?_⟩
    have hT2 : h2.get? s.heap.objs.size = some { cls := .type "tuple", data := .seq #[.ref q, en.val] } := by
      rw [sb.2 _ (Nat.ne_of_gt hlt), hT, hen, g2]
    have new : ObjOk X.prog X.w (upd H s.heap.objs.size (.tup [.ref q, (kvs[i]).2])) h2 s.heap.objs.size (.tup [.ref q, (kvs[i]).2]) :=
      ⟨show 2 ≤ sizeLine by decide, [.ref q, en.val], .cons rfl (.cons g4 .nil), ⟨_, hT2, rfl, _, rfl⟩⟩
    have I1 : Inv X pins σ (upd H s.heap.objs.size (.tup [.ref q, (kvs[i]).2])) { s with heap := h2 } :=
      I.turnedNew (t' := s.toks) (ch := [it]) (fun b ob hb e => (sb.2 b (fun z => hb (List.mem_singleton.mpr z))).trans (hk b ob (fun z => hb (List.mem_singleton.mpr z)) e)) hf (Nat.le_refl _) new
    refine ⟨.ref s.heap.objs.size, _, I1, rfl, ⟨_, q, _, _, hkv, rfl, I.hok.fresh (Nat.le_refl _), g3, rfl⟩, ⟨_, _, by rw [← e5]; exact hit⟩, fun b hb => ?_⟩
    rw [List.mem_singleton.mp hb, upd_ne (Nat.ne_of_lt hlt)]
    exact (hf it (List.mem_singleton.mpr rfl)).1
  done := by
    rintro X rfl rfl rfl hc i pins s σ H E I hf ⟨ok, ov, st⟩ ⟨hd, hi⟩
    obtain ⟨f0, f1, f2, f3, f4, f5⟩ := hf it (List.mem_singleton.mpr rfl)
    obtain ⟨e1, e2, e3, es2, ep2, e4, e5, e6⟩ := frzT2 I hd
    obtain ⟨rfl, rfl⟩ := dict_ep hod e4
    rw [← e5] at st hi
    exact DT.endI (I.ok.hd hc) st ⟨o, e2, e3, hod⟩ hi fun h1 eb => ⟨rfl, I.turned (t' := s.toks) (fun b ob hb e => eb b ob hb e) f0 f1 f3 f4 f5⟩
  self := fun A i s Q E ⟨_, _, e⟩ h => PySem.W.kcp_self e h
def tLk (td : TE) : TE := fun σ H Q => td σ H fun x H1 => ∃ d u, x = .ref d ∧ ((∃ od, H1 d = some (.frz od u) ∧ Q x H1) ∨ (H1 d = some u ∧ Mut (some u) ∧ ∀ od, Q x (upd H1 d (.frz od u))))
section
variable {X : Cx} {tg e : Expr} {td : TE} {apos cpos : Pos}
theorem pe_lk (h : PE X e td) : PE X e (tLk td) := ⟨fun pins s σ H Q I q => wpAny_mono (h.run pins s σ H _ I q) (fun v s1 ⟨x, H1, I1, rx, d, u, ex, z⟩ => by
  rcases z with ⟨od, hd, q⟩ | ⟨hd, mu, q⟩
  · exact ⟨x, H1, I1, rx, q⟩
  · obtain ⟨od, I2⟩ := I1.lock hd mu
    exact ⟨x, _, I2, rx, q od⟩) fun _ _ h => h⟩
def iItemsT (td : TE) : TI := fun σ H R => td σ H fun x H1 => ∃ d o kvs, x = .ref d ∧ H1 d = some (.frz o (.dT kvs)) ∧ R (ItiT d o kvs) H1
theorem pi_itemsT {elts : List Expr} {kk : Nat} {tpos : Pos} (he : PE X e td) (hb : attributeBase e "items" X.env (eval e X.env) = eval e X.env := by rfl) (hl : (apos.endLine == cpos.line) = true := by rfl) :
    PI X (.Tuple elts kk tpos) (.Call (.Attribute e "items" apos) [] [] cpos) (iItemsT td) := by
  refine ⟨fun pins s σ H R I h => ?_⟩
  refine wpAny_Call_method (T := "dict") (id := "dict.items") hb rfl hl F.plainAttrs_dict F.slot_dict_items F.type_dict_items (thn (he.run pins s σ H _ I h) fun u s1 ⟨x, H1, I1, rx, d, o, kvs, ex, hd, q⟩ => ?_)
  cases ex
  cases rx
  obtain ⟨e1, e2, e3, es, ep, e4, e5, e6⟩ := frzT2 I1 hd
  have raw : DT.Raw s1.heap d es ep := ⟨o, e2, e3, e4⟩
  have I2 : Inv X pins σ H1 { s1 with heap := s1.heap.push { cls := .type "dict_items", data := .fields #[.ref d] } } := I1.kept (t' := s1.toks) fun b ob z => Heap.get?_push_of_some _ z
  refine ⟨raw.typeIs, fun b z => by cases z; exact ⟨o, e2, e3.2.1⟩, ?_⟩
  have fin : wpAny (model X.prog X.w) X.A (pyIter (.ref s1.heap.objs.size)) (PIE X pins σ (.Tuple elts kk tpos) R) X.xe { s1 with heap := s1.heap.push { cls := .type "dict_items", data := .fields #[.ref d] } } :=
    DT.iterI (d := d) ⟨_, Heap.get?_push_size _ rfl, rfl, rfl⟩ (raw.push _) (pi_one (tk := s1.toks) I2 _ (turn_itemsT _ e4) ⟨.none, .none, by rw [← e5]; exact Heap.get?_push_size _ rfl⟩ q)
  show wpAny _ _ (callWith cpos (.builtin "dict.items") [.ref d] [] []) _ X.xe s1
  exact method_meetsIn F.slot_dict_items F.entry_dict_items rfl (PySem.evalArgs_none ⟨rfl, raw.typeIs, F.args_dict_items_1 _, _, DT.meetsItems (es := es) (ep := ep) e1, raw, fin⟩)
end
end MP
set_option maxRecDepth 100000
set_option maxHeartbeats 1000000
namespace MP
open PySem PySem.Spec PyProof.Rows L2
variable [TabsP] [ThkP]
def Pre (Ad Ad' : List Addr) : Prop := ∀ (n : Nat) (a : Addr), Ad[n]? = some a → Ad'[n]? = some a
def KsOk (ks : List (Addr × HO)) (H : Hp) : Prop := ∀ k ∈ ks, H k.1 = some k.2
structure ItOk (K : PySem.W.Frag) (F : Hp) (Ad : List Addr) (ks : List (Addr × HO)) (J : It) (ds : List D) : Prop where
  go : ∀ (i : Nat) F' Ad' M' H', i < ds.length → FLe F F' → Pre Ad Ad' → MemOk K F' Ad' M' H' → KsOk ks H' → J.go i H'
  stop : ∀ F' Ad' M' H', FLe F F' → Pre Ad Ad' → MemOk K F' Ad' M' H' → KsOk ks H' → J.stop ds.length H'
  yld : ∀ (i : Nat) F' Ad' M' H' x H'', i < ds.length → FLe F F' → Pre Ad Ad' → MemOk K F' Ad' M' H' → KsOk ks H' → J.yld i H' x H'' →
    ∃ d F'', ds[i]? = some d ∧ Gr F' Ad' H' F'' Ad' H'' ∧ MemOk K F'' Ad' M' H'' ∧ Den K F'' Ad' x d
def AtL (K : PySem.W.Frag) (F : Hp) (Ad : List Addr) (ks : List (Addr × HO)) (a : Addr) (ds : List D) : Prop :=
  ∀ F' Ad' M' H', FLe F F' → Pre Ad Ad' → MemOk K F' Ad' M' H' → KsOk ks H' → ∃ vs, SqL K H' a vs ∧ DenL K F' Ad' vs ds
def AtT (K : PySem.W.Frag) (F : Hp) (Ad : List Addr) (ks : List (Addr × HO)) (a : Addr) (ds : List D) : Prop :=
  ∀ F' Ad' M' H', FLe F F' → Pre Ad Ad' → MemOk K F' Ad' M' H' → KsOk ks H' → ∃ vs, SqT K H' a vs ∧ DenL K F' Ad' vs ds
def enumD (ds : List D) : List D := ds.mapIdx fun i d => .tup [.int i, d]
section
variable {K : PySem.W.Frag} {F H : Hp} {Ad : List Addr} {M : List D} {ks : List (Addr × HO)} {a : Addr} {ds : List D}
theorem atL_lst {vs} (h : F a = some (.lst vs)) (r : DenL K F Ad vs ds) : AtL K F Ad [] a ds := fun F' Ad' M' H' l p m _ =>
  ⟨vs, SqL.of (m.sub _ _ (nrm_lst (l a (.lst vs) (by rw [h]; rfl)))), r.mono l p⟩
theorem atL_scr {ns : List Int} (h : SqL K F a (ns.map V.int)) : AtL K F Ad [] a (ns.map D.int) := fun F' Ad' M' H' l p m _ =>
  ⟨_, sqL_sub m (sqL_fle l h), DenL.map_int⟩
theorem atT_tup {vs} (h : TupK K F a vs) (r : DenL K F Ad vs ds) : AtT K F Ad [] a ds := fun F' Ad' M' H' l p m _ =>
  ⟨vs, sqT_sub m (sqT_fle l h.sq), r.mono l p⟩
theorem atT_ktp {vs} (h : SqT K F a vs) (r : DenL K F Ad vs ds) : AtT K F Ad [] a ds := fun F' Ad' M' H' l p m _ =>
  ⟨vs, sqT_sub m (sqT_fle l h), r.mono l p⟩
theorem DenL.lt {vs} {i : Nat} (r : DenL K F Ad vs ds) (h : i < ds.length) : ∃ v d, vs[i]? = some v ∧ ds[i]? = some d ∧ Den K F Ad v d := by
  obtain ⟨v, h1, h2⟩ := r.get (List.getElem?_eq_getElem h)
  exact ⟨v, _, h1, List.getElem?_eq_getElem h, h2⟩
theorem it_l (h : AtL K F Ad ks a ds) : ItOk K F Ad ks (Itl K a) ds where
  go := fun i F' Ad' M' H' hi l p m k => by
    obtain ⟨vs, h1, h2⟩ := h F' Ad' M' H' l p m k
    obtain ⟨v, d, e1, e2, e3⟩ := h2.lt hi
    exact ⟨vs, v, h1, e1⟩
  stop := fun F' Ad' M' H' l p m k => by
    obtain ⟨vs, h1, h2⟩ := h F' Ad' M' H' l p m k
    exact ⟨vs, h1, by rw [h2.length]; exact Nat.le_refl _⟩
  yld := fun i F' Ad' M' H' x H'' hi l p m k ⟨e, q⟩ => by
    subst e
    obtain ⟨vs, h1, h2⟩ := h F' Ad' M' H'' l p m k
    obtain ⟨v, d, e1, e2, e3⟩ := h2.lt hi
    rw [q vs h1] at e1; cases e1
    exact ⟨d, F', e2, Gr.refl, m, e3⟩
theorem it_t (h : AtT K F Ad ks a ds) : ItOk K F Ad ks (Itt K a) ds where
  go := fun i F' Ad' M' H' hi l p m k => by
    obtain ⟨vs, h1, h2⟩ := h F' Ad' M' H' l p m k
    obtain ⟨v, d, e1, e2, e3⟩ := h2.lt hi
    exact ⟨vs, v, h1, e1⟩
  stop := fun F' Ad' M' H' l p m k => by
    obtain ⟨vs, h1, h2⟩ := h F' Ad' M' H' l p m k
    exact ⟨vs, h1, by rw [h2.length]; exact Nat.le_refl _⟩
  yld := fun i F' Ad' M' H' x H'' hi l p m k ⟨e, q⟩ => by
    subst e
    obtain ⟨vs, h1, h2⟩ := h F' Ad' M' H'' l p m k
    obtain ⟨v, d, e1, e2, e3⟩ := h2.lt hi
    rw [q vs h1] at e1; cases e1
    exact ⟨d, F', e2, Gr.refl, m, e3⟩
theorem enum_len : (enumD ds).length = ds.length := by unfold enumD; simp
theorem enum_get {i : Nat} {d : D} (h : ds[i]? = some d) : (enumD ds)[i]? = some (.tup [.int i, d]) := by unfold enumD; simp [h]
theorem pair_new {F H : Hp} {Ad : List Addr} {M : List D} {T : Addr} {x : V} {d : D} {i : Int} (m : MemOk K F Ad M H) (hT : H T = none) (x1 : Den K F Ad x d) :
    Gr F Ad H (upd F T (.tup [.int i, x])) Ad (upd H T (.tup [.int i, x])) ∧ MemOk K (upd F T (.tup [.int i, x])) Ad M (upd H T (.tup [.int i, x])) ∧ Den K (upd F T (.tup [.int i, x])) Ad (.ref T) (.tup [.int i, d]) :=
  ⟨gr_new m hT, mem_new m hT, .tup (.inl upd_same) (.cons .int (.cons (x1.mono (fle_new (m.none hT)) fun _ _ h => h) .nil))⟩
theorem it_e (h : AtL K F Ad ks a ds) : ItOk K F Ad ks (Ite K a) (enumD ds) where
  go := fun i F' Ad' M' H' hi l p m k => by
    rw [enum_len] at hi
    obtain ⟨vs, h1, h2⟩ := h F' Ad' M' H' l p m k
    obtain ⟨v, d, e1, e2, e3⟩ := h2.lt hi
    exact ⟨vs, v, h1, e1⟩
  stop := fun F' Ad' M' H' l p m k => by
    obtain ⟨vs, h1, h2⟩ := h F' Ad' M' H' l p m k
    exact ⟨vs, h1, by rw [h2.length, enum_len]; exact Nat.le_refl _⟩
  yld := fun i F' Ad' M' H' x H'' hi l p m k ⟨T, y, ex, hT, e, q⟩ => by
    rw [enum_len] at hi
    subst e; subst ex
    obtain ⟨vs, h1, h2⟩ := h F' Ad' M' H' l p m k
    obtain ⟨v, d, e1, e2, e3⟩ := h2.lt hi
    rw [q vs h1] at e1; cases e1
    obtain ⟨g, m', dn⟩ := pair_new (i := (i : Nat)) m hT e3
    exact ⟨_, _, enum_get e2, g, m', dn⟩
theorem it_et (h : AtT K F Ad ks a ds) : ItOk K F Ad ks (IteT K a) (enumD ds) where
  go := fun i F' Ad' M' H' hi l p m k => by
    rw [enum_len] at hi
    obtain ⟨vs, h1, h2⟩ := h F' Ad' M' H' l p m k
    obtain ⟨v, d, e1, e2, e3⟩ := h2.lt hi
    exact ⟨vs, v, h1, e1⟩
  stop := fun F' Ad' M' H' l p m k => by
    obtain ⟨vs, h1, h2⟩ := h F' Ad' M' H' l p m k
    exact ⟨vs, h1, by rw [h2.length, enum_len]⟩
  yld := fun i F' Ad' M' H' x H'' hi l p m k ⟨T, y, ex, hT, e, q⟩ => by
    rw [enum_len] at hi
    subst e; subst ex
    obtain ⟨vs, h1, h2⟩ := h F' Ad' M' H' l p m k
    obtain ⟨v, d, e1, e2, e3⟩ := h2.lt hi
    rw [q vs h1] at e1; cases e1
    obtain ⟨g, m', dn⟩ := pair_new (i := (i : Nat)) m hT e3
    exact ⟨_, _, enum_get e2, g, m', dn⟩
def rngD (lo : Int) (n : Nat) : List D := (List.range n).map fun (k : Nat) => D.int (lo + (k : Nat))
theorem it_r {lo : Int} {n : Nat} : ItOk K F Ad [] (Itr lo n) (rngD lo n) where
  go := fun i F' Ad' M' H' hi l p m k => by show i < n; simpa [rngD] using hi
  stop := fun F' Ad' M' H' l p m k => by show n ≤ (rngD lo n).length; simp [rngD]
  yld := fun i F' Ad' M' H' x H'' hi l p m k ⟨e, q⟩ => by
    subst e; subst q
    have hi : i < n := by simpa [rngD] using hi
    exact ⟨.int (lo + (i : Nat)), F', by simp [rngD, hi], Gr.refl, m, .int⟩
end
def keyE : Key → D
  | .inl i => .int i
  | .inr s => .str s
def keyTE (ks : List Key) : D := .tup (ks.map keyE)
section
variable {K : PySem.W.Frag} {F H : Hp} {Ad : List Addr} {M : List D} {a : Addr}
theorem den_key : ∀ k : Key, Den K F Ad (kV k) (keyE k)
  | .inl _ => .int
  | .inr _ => .str
theorem denL_keys : ∀ ks : List Key, DenL K F Ad (ks.map kV) (ks.map keyE)
  | [] => .nil
  | k :: ks => .cons (den_key k) (denL_keys ks)
theorem absorb {q : Addr} {vs : List V} (m : MemOk K F Ad M H) (h : H q = some (.tup vs)) : ∃ F', Gr F Ad H F' Ad H ∧ MemOk K F' Ad M H ∧ F' q = some (.tup vs) := by
  cases e : F q with
  | some u =>
    have z := m.sub q u e
    rw [h] at z
    cases z
    exact ⟨F, Gr.refl, m, e⟩
  | none =>
    refine ⟨upd F q (.tup vs), ⟨fle_new e, fun b o hb ro n _ => ?_, ⟨[], by simp, by simp⟩, fun b o hb _ _ _ => hb, fun b hb => hb⟩, ⟨fun b u hb => ?_, m.len, m.nd, fun n b d h1 h2 => ?_, m.tab⟩, upd_same⟩
    · rw [upd_ne (fun z => by subst z; rw [h] at hb; cases hb; exact ro)]; exact n
    · by_cases z : b = q
      · subst z; rw [upd_same] at hb; cases hb; exact h
      · rw [upd_ne z] at hb; exact m.sub b u hb
    · obtain ⟨f, r⟩ := m.cel n b d h1 h2
      obtain ⟨o, ho, ro⟩ := r.obj
      have ne : b ≠ q := fun z => by subst z; rw [h] at ho; cases ho; exact ro
      exact ⟨by rw [upd_ne ne]; exact f, r.mono (fle_new e) (fun _ _ h => h) rfl⟩
def isDict : HO → Bool
  | .dK _ => true
  | .dT _ => true
  | _ => false
theorem lock_den {u : HO} (hu : isDict u = true) (m : MemOk K F Ad M H) (h : F a = some u) (od : Obj) : Gr F Ad H (upd F a (.frz od u)) Ad (upd H a (.frz od u)) ∧ MemOk K (upd F a (.frz od u)) Ad M (upd H a (.frz od u)) := by
  have hn : nrm (some (HO.frz od u)) = some u ∧ ∀ o' u', u ≠ .frz o' u' := by
    cases u <;> first | exact ⟨rfl, fun _ _ z => nomatch z⟩ | cases hu
  have fl : FLe F (upd F a (.frz od u)) := ⟨fun b v hb => by
    by_cases z : b = a
    · subst z
      rw [h] at hb
      rw [upd_same, hn.1, ← hb]
      cases u <;> first | rfl | cases hu
    · rw [upd_ne z]; exact hb, fun b o v hb => by
    by_cases z : b = a
    · subst z; rw [h] at hb; exact absurd (Option.some.inj hb) (hn.2 o v)
    · rw [upd_ne z]; exact hb⟩
  have nf : ∀ {b}, F b = none → b ≠ a := fun n z => by rw [z, h] at n; cases n
  refine ⟨⟨fl, fun b o hb ro n _ => by rw [upd_ne (nf n)]; exact n, ⟨[], by simp, by simp⟩, fun b o hb _ n _ => by rw [upd_ne (nf n)]; exact hb, fun b hb => ?_⟩, ⟨fun b v hb => ?_, m.len, m.nd, fun n b d h1 h2 => ?_, tabs_root m.tab (m.sub _ _ h) (by cases u <;> first | trivial | cases hu)⟩⟩
  · by_cases z : b = a
    · subst z; rw [upd_same]; simp
    · rw [upd_ne z]; exact hb
  · by_cases z : b = a
    · subst z; rw [upd_same] at hb ⊢; exact hb
    · rw [upd_ne z] at hb ⊢; exact m.sub b v hb
  · obtain ⟨f, r⟩ := m.cel n b d h1 h2
    exact ⟨by rw [upd_ne (nf f)]; exact f, r.mono fl (fun _ _ h => h) (by rw [upd_ne (nf f)])⟩
theorem DenK.get : ∀ {vs ds} {i : Nat} {k : Key} {v : V}, DenK K F Ad vs ds → vs[i]? = some (k, v) → ∃ d, ds[i]? = some (k, d) ∧ Den K F Ad v d
  | _, _, _, _, _, .nil, e => by simp at e
  | _, _, 0, k, v, .cons h _, e => by simp at e; obtain ⟨rfl, rfl⟩ := e; exact ⟨_, rfl, h⟩
  | _, _, i + 1, k, v, .cons _ r, e => by
    obtain ⟨d, h1, h2⟩ := DenK.get (i := i) r (by simpa using e)
    exact ⟨d, by simpa using h1, h2⟩
theorem DenT.get : ∀ {vs ds} {i : Nat} {k : List Key} {v : V}, DenT K F Ad vs ds → vs[i]? = some (k, v) → ∃ d, ds[i]? = some (k, d) ∧ Den K F Ad v d
  | _, _, _, _, _, .nil, e => by simp at e
  | _, _, 0, k, v, .cons h _, e => by simp at e; obtain ⟨rfl, rfl⟩ := e; exact ⟨_, rfl, h⟩
  | _, _, i + 1, k, v, .cons _ r, e => by
    obtain ⟨d, h1, h2⟩ := DenT.get (i := i) r (by simpa using e)
    exact ⟨d, by simpa using h1, h2⟩
def keysT (ds : List (List Key × D)) : List D := ds.map fun kv => keyTE kv.1
def keysK (ds : List (Key × D)) : List D := ds.map fun kv => keyE kv.1
def itemsT (ds : List (List Key × D)) : List D := ds.map fun kv => .tup [keyTE kv.1, kv.2]
def itemsK (ds : List (Key × D)) : List D := ds.map fun kv => .tup [keyE kv.1, kv.2]
theorem it_kT {o : Obj} {vs ds} (h : F a = some (.frz o (.dT vs))) (r : DenT K F Ad vs ds) : ItOk K F Ad [] (Itkt a o vs) (keysT ds) where
  go := fun i F' Ad' M' H' hi l p m _ => ⟨m.sub _ _ (l.fz _ _ _ h), by rw [r.length]; simpa [keysT] using hi⟩
  stop := fun F' Ad' M' H' l p m _ => ⟨m.sub _ _ (l.fz _ _ _ h), by rw [r.length]; simp [keysT]⟩
  yld := fun i F' Ad' M' H' x H'' hi l p m _ ⟨e1, k, v, q, e2, e3, e4⟩ => by
    subst e1; subst e3
    obtain ⟨d, h1, h2⟩ := r.get e2
    obtain ⟨F2, g2, m2, e5⟩ := absorb m e4
    exact ⟨_, F2, by rw [keysT, List.getElem?_map, h1]; rfl, g2, m2, .tup (.inl e5) (denL_keys k)⟩
theorem it_kK {o : Obj} {vs ds} (h : F a = some (.frz o (.dK vs))) (r : DenK K F Ad vs ds) : ItOk K F Ad [] (Itk a o vs) (keysK ds) where
  go := fun i F' Ad' M' H' hi l p m _ => ⟨m.sub _ _ (l.fz _ _ _ h), by rw [r.length]; simpa [keysK] using hi⟩
  stop := fun F' Ad' M' H' l p m _ => ⟨m.sub _ _ (l.fz _ _ _ h), by rw [r.length]; simp [keysK]⟩
  yld := fun i F' Ad' M' H' x H'' hi l p m _ ⟨e1, k, v, e2, e3⟩ => by
    subst e1; subst e3
    obtain ⟨d, h1, h2⟩ := r.get e2
    exact ⟨_, F', by rw [keysK, List.getElem?_map, h1]; rfl, Gr.refl, m, den_key k⟩
theorem it_iT {o : Obj} {vs ds} (h : F a = some (.frz o (.dT vs))) (r : DenT K F Ad vs ds) : ItOk K F Ad [] (ItiT a o vs) (itemsT ds) where
  go := fun i F' Ad' M' H' hi l p m _ => ⟨m.sub _ _ (l.fz _ _ _ h), by rw [r.length]; simpa [itemsT] using hi⟩
  stop := fun F' Ad' M' H' l p m _ => ⟨m.sub _ _ (l.fz _ _ _ h), by rw [r.length]; simp [itemsT]⟩
  yld := fun i F' Ad' M' H' x H'' hi l p m _ ⟨T, q, k, y, e1, e2, e3, e4, e5⟩ => by
    subst e2; subst e5
    obtain ⟨d, h1, h2⟩ := r.get e1
    obtain ⟨F2, g2, m2, e6⟩ := absorb m e4
    have hq : q ≠ T := fun z => by rw [z, e3] at e4; cases e4
    have fl := fle_new (o := .tup [.ref q, y]) (m2.none e3)
    refine ⟨_, _, by rw [itemsT, List.getElem?_map, h1]; rfl, g2.trans (gr_new (o := .tup [.ref q, y]) m2 e3), mem_new m2 e3, .tup (.inl upd_same) (.cons (.tup (.inl (by rw [upd_ne hq]; exact e6)) (denL_keys k)) (.cons ((h2.mono l p).mono (g2.fle.trans fl) fun _ _ h => h) .nil))⟩
theorem it_iK {o : Obj} {vs ds} (h : F a = some (.frz o (.dK vs))) (r : DenK K F Ad vs ds) : ItOk K F Ad [] (Iti a o vs) (itemsK ds) where
  go := fun i F' Ad' M' H' hi l p m _ => ⟨m.sub _ _ (l.fz _ _ _ h), by rw [r.length]; simpa [itemsK] using hi⟩
  stop := fun F' Ad' M' H' l p m _ => ⟨m.sub _ _ (l.fz _ _ _ h), by rw [r.length]; simp [itemsK]⟩
  yld := fun i F' Ad' M' H' x H'' hi l p m _ ⟨T, k, y, e1, e2, e3, e5⟩ => by
    subst e2; subst e5
    obtain ⟨d, h1, h2⟩ := r.get e1
    have fl := fle_new (o := .tup [kV k, y]) (m.none e3)
    exact ⟨_, _, by rw [itemsK, List.getElem?_map, h1]; rfl, gr_new (o := .tup [kV k, y]) m e3, mem_new m e3, .tup (.inl upd_same) (.cons (den_key k) (.cons ((h2.mono l p).mono fl fun _ _ h => h) .nil))⟩
end
def tI (K : PySem.W.Frag) (W : WX) (st : Bool) (f : LF) : TI := fun σ H R => ∃ N0 F Ad M env, MemOk K F Ad M H ∧ EnvOk K N0 F Ad H σ env ∧ (match f env M with
  | .ok ds M1 => ∀ J ks F' Ad' H', Gr F Ad H F' Ad' H' → MemOk K F' Ad' M1 H' → ItOk K F' Ad' ks J ds → KsOk ks H' → (∀ k ∈ ks, F' k.1 = none ∧ k.1 ∉ Ad' ∧ RootO k.2) → (st = true → ks = []) → R J H'
  | .exc x M1 => ∀ cls dx F' Ad' H', Gr F Ad H F' Ad' H' → MemOk K F' Ad' M1 H' → XOk K F' Ad' H' x cls dx → W cls dx σ H'
  | .stuck => False)
abbrev SI (X : Cx) (W : WX) (st : Bool) (tg iter : Expr) (f : LF) : Prop := PI X tg iter (tI X.K W st f)
section
variable {X : Cx} {W : WX} {K : PySem.W.Frag} {N0 : Ent} {F H : Hp} {Ad : List Addr} {M : List D} {env : EnvM} {σ : St} {tg e e' : Expr} {f f' : EF} {l : LF} {pos p : Pos}
theorem PI.imp {t u : TI} (h : PI X tg e t) (i : ∀ σ H R, u σ H R → t σ H R) : PI X tg e u := ⟨fun pins s σ H R I q => h.run pins s σ H R I (i σ H R q)⟩
theorem PI.or {t u : TI} (h : PI X tg e t) (h' : PI X tg e u) : PI X tg e (fun σ H R => t σ H R ∨ u σ H R) := ⟨fun pins s σ H R I q => by
  rcases q with q | q
  · exact h.run pins s σ H R I q
  · exact h'.run pins s σ H R I q⟩
theorem SI.any (h : SI X W true tg e l) : SI X W false tg e l := PI.imp h fun σ H R ⟨N0, F, Ad, M, env, m, en, r⟩ => ⟨N0, F, Ad, M, env, m, en, by
  cases q : l env M with
  | ok ds M1 => rw [q] at r; exact fun J ks F' Ad' H' g m' it k k2 z => r J ks F' Ad' H' g m' it k k2 (fun h => nomatch h)
  | exc x M1 => rw [q] at r; exact r
  | stuck => rw [q] at r; exact r⟩
theorem pre_refl : Pre Ad Ad := fun _ _ h => h
def iSeq (f : EF) : LF := fun env M => (f env M).bindL fun d M1 => match d with
  | .lst xs => .ok xs M1
  | .tup xs => .ok xs M1
  | .ktp xs => .ok xs M1
  | .scr ns => .ok (ns.map .int) M1
  | .dT kvs => .ok (keysT kvs) M1
  | .dK kvs => .ok (keysK kvs) M1
  | _ => .stuck
theorem nrm_frz {o : Option HO} {u : HO} (hu : isDict u = true) (h : nrm o = some u) : o = some u ∨ ∃ b, o = some (.frz b u) := by
  cases u with
  | dK k => exact nrm_dK h
  | dT k => exact nrm_dT h
  | _ => cases hu
theorem mut_dict {u : HO} (hu : isDict u = true) : Mut (some u) := by cases u <;> first | exact trivial | cases hu
theorem lk_den {u : HO} {Q : VK} (hu : isDict u = true) (m : MemOk K F Ad M H) {a : Addr} (h : nrm (F a) = some u) (q : ∀ od F' H', Gr F Ad H F' Ad H' → MemOk K F' Ad M H' → F' a = some (.frz od u) → Q (.ref a) H') :
    ∃ d u, V.ref a = .ref d ∧ ((∃ od, H d = some (.frz od u) ∧ Q (.ref a) H) ∨ (H d = some u ∧ Mut (some u) ∧ ∀ od, Q (.ref a) (upd H d (.frz od u)))) := by
  rcases nrm_frz hu h with e | ⟨b, e⟩
  · refine ⟨a, u, rfl, .inr ⟨m.sub _ _ e, mut_dict hu, fun od => ?_⟩⟩
    obtain ⟨g2, m2⟩ := lock_den hu m e od
    exact q od _ _ g2 m2 upd_same
  · exact ⟨a, u, rfl, .inl ⟨b, m.sub _ _ e, q b F H Gr.refl m e⟩⟩
theorem si_seq (h : SE X W e f) : SI X W true tg e (iSeq f) := PI.imp (PI.or (PI.or (pi_list h) (pi_tup h)) (pi_keys (pe_lk h))) fun σ H R ⟨N0, F, Ad, M, env, m, en, r⟩ => by
  unfold iSeq at r
  cases q : f env M with
  | ok d M1 =>
    rw [q, MP.R.bindL_ok] at r
    have lift : ∀ P : V → Hp → Prop, (∀ v F1 Ad1 H1, Gr F Ad H F1 Ad1 H1 → MemOk X.K F1 Ad1 M1 H1 → Den X.K F1 Ad1 v d → P v H1) → tG X.K W (DE X.K) f σ H P := fun P hP =>
      ⟨N0, F, Ad, M, env, m, en, by rw [q]; exact hP⟩
    cases d with
    | lst xs =>
      refine .inl (.inl (lift _ fun v F1 Ad1 H1 g1 m1 x1 => ?_))
      cases x1 with
      | lst h r1 => exact ⟨_, rfl, ⟨_, SqL.of (m1.sub _ _ h)⟩, r _ [] F1 Ad1 H1 g1 m1 (it_l (atL_lst h r1)) (fun _ z => nomatch z) (fun _ z => nomatch z) fun _ => rfl⟩
    | scr ns =>
      refine .inl (.inl (lift _ fun v F1 Ad1 H1 g1 m1 x1 => ?_))
      cases x1 with
      | scr h => exact ⟨_, rfl, ⟨_, sqL_sub m1 h⟩, r _ [] F1 Ad1 H1 g1 m1 (it_l (atL_scr h)) (fun _ z => nomatch z) (fun _ z => nomatch z) fun _ => rfl⟩
    | tup xs =>
      refine .inl (.inr (lift _ fun v F1 Ad1 H1 g1 m1 x1 => ?_))
      cases x1 with
      | tup h r1 => exact ⟨_, rfl, ⟨_, sqT_sub m1 h.sq⟩, r _ [] F1 Ad1 H1 g1 m1 (it_t (atT_tup h r1)) (fun _ z => nomatch z) (fun _ z => nomatch z) fun _ => rfl⟩
    | ktp xs =>
      refine .inl (.inr (lift _ fun v F1 Ad1 H1 g1 m1 x1 => ?_))
      cases x1 with
      | ktp h r1 => exact ⟨_, rfl, ⟨_, sqT_sub m1 h⟩, r _ [] F1 Ad1 H1 g1 m1 (it_t (atT_ktp h r1)) (fun _ z => nomatch z) (fun _ z => nomatch z) fun _ => rfl⟩
    | dT xs =>
      refine .inr (lift _ fun v F1 Ad1 H1 g1 m1 x1 => ?_)
      cases x1 with
      | dT h r1 => exact lk_den (Q := fun x H1 => ∃ d o, x = V.ref d ∧ ((∃ kvs, H1 d = some (.frz o (.dK kvs)) ∧ R (Itk d o kvs) H1) ∨ ∃ kvs, H1 d = some (.frz o (.dT kvs)) ∧ R (Itkt d o kvs) H1)) rfl m1 h fun od F2 H2 g2 m2 h2 => ⟨_, _, rfl, .inr ⟨_, m2.sub _ _ h2, r _ [] F2 Ad1 H2 (g1.trans g2) m2 (it_kT h2 (r1.mono g2.fle fun _ _ h => h)) (fun _ z => nomatch z) (fun _ z => nomatch z) fun _ => rfl⟩⟩
    | dK xs =>
      refine .inr (lift _ fun v F1 Ad1 H1 g1 m1 x1 => ?_)
      cases x1 with
      | dK h r1 => exact lk_den (Q := fun x H1 => ∃ d o, x = V.ref d ∧ ((∃ kvs, H1 d = some (.frz o (.dK kvs)) ∧ R (Itk d o kvs) H1) ∨ ∃ kvs, H1 d = some (.frz o (.dT kvs)) ∧ R (Itkt d o kvs) H1)) rfl m1 h fun od F2 H2 g2 m2 h2 => ⟨_, _, rfl, .inl ⟨_, m2.sub _ _ h2, r _ [] F2 Ad1 H2 (g1.trans g2) m2 (it_kK h2 (r1.mono g2.fle fun _ _ h => h)) (fun _ z => nomatch z) (fun _ z => nomatch z) fun _ => rfl⟩⟩
    | _ => exact r.elim
  | exc x M1 => rw [q] at r; exact .inl (.inl ⟨N0, F, Ad, M, env, m, en, by rw [q]; exact r⟩)
  | stuck => rw [q] at r; exact r.elim
def iSeqB (f : EF) : LF := fun env M => (f env M).bindL fun d M1 => match d with
  | .lst xs => .ok xs M1
  | .tup xs => .ok xs M1
  | .ktp xs => .ok xs M1
  | .scr ns => .ok (ns.map .int) M1
  | _ => .stuck
def iItm (f : EF) : LF := fun env M => (f env M).bindL fun d M1 => match d with
  | .dT kvs => .ok (itemsT kvs) M1
  | .dK kvs => .ok (itemsK kvs) M1
  | _ => .stuck
theorem si_items {elts : List Expr} {kk : Nat} {tpos apos cpos : Pos} (h : SE X W e f) (hb : attributeBase e "items" X.env (eval e X.env) = eval e X.env := by rfl) (hl : (apos.endLine == cpos.line) = true := by rfl) :
    SI X W true (.Tuple elts kk tpos) (.Call (.Attribute e "items" apos) [] [] cpos) (iItm f) := PI.imp (PI.or (pi_items (pe_lk h) hb hl) (pi_itemsT (pe_lk h) hb hl)) fun σ H R ⟨N0, F, Ad, M, env, m, en, r⟩ => by
  unfold iItm at r
  cases q : f env M with
  | ok d M1 =>
    rw [q, MP.R.bindL_ok] at r
    have lift : ∀ P : V → Hp → Prop, (∀ v F1 Ad1 H1, Gr F Ad H F1 Ad1 H1 → MemOk X.K F1 Ad1 M1 H1 → Den X.K F1 Ad1 v d → P v H1) → tG X.K W (DE X.K) f σ H P := fun P hP =>
      ⟨N0, F, Ad, M, env, m, en, by rw [q]; exact hP⟩
    cases d with
    | dT xs =>
      refine .inr (lift _ fun v F1 Ad1 H1 g1 m1 x1 => ?_)
      cases x1 with
      | dT h r1 => exact lk_den (Q := fun x H1 => ∃ d o kvs, x = .ref d ∧ H1 d = some (.frz o (.dT kvs)) ∧ R (ItiT d o kvs) H1) rfl m1 h fun od F2 H2 g2 m2 h2 => ⟨_, _, _, rfl, m2.sub _ _ h2, r _ [] F2 Ad1 H2 (g1.trans g2) m2 (it_iT h2 (r1.mono g2.fle fun _ _ h => h)) (fun _ z => nomatch z) (fun _ z => nomatch z) fun _ => rfl⟩
    | dK xs =>
      refine .inl (lift _ fun v F1 Ad1 H1 g1 m1 x1 => ?_)
      cases x1 with
      | dK h r1 => exact lk_den (Q := fun x H1 => ∃ d o kvs, x = .ref d ∧ H1 d = some (.frz o (.dK kvs)) ∧ R (Iti d o kvs) H1) rfl m1 h fun od F2 H2 g2 m2 h2 => ⟨_, _, _, rfl, m2.sub _ _ h2, r _ [] F2 Ad1 H2 (g1.trans g2) m2 (it_iK h2 (r1.mono g2.fle fun _ _ h => h)) (fun _ z => nomatch z) (fun _ z => nomatch z) fun _ => rfl⟩
    | _ => exact r.elim
  | exc x M1 => rw [q] at r; exact .inl ⟨N0, F, Ad, M, env, m, en, by rw [q]; exact r⟩
  | stuck => rw [q] at r; exact r.elim
def iEnu (f : EF) : LF := fun env M => (f env M).bindL fun d M1 => match d with
  | .lst xs => .ok (enumD xs) M1
  | .tup xs => .ok (enumD xs) M1
  | .ktp xs => .ok (enumD xs) M1
  | _ => .stuck
theorem sl_one {DR : DRel} {g : EF} (h : PE X e (tG X.K W DR g)) (hs : starEach [e] X.env = [(false, eval e X.env)]) : PA X [e] (fun σ H Q => tG X.K W DR g σ H fun x H1 => Q [x] H1) := pa_cons h pa_nil hs
theorem si_enu {elts : List Expr} {kk : Nat} {tpos : Pos} (h : SE X W e f) (hg : Gl X "enumerate") (hm : X.mg "enumerate" = none) (hs : starEach [e] X.env = [(false, eval e X.env)] := by rfl) :
    SI X W true (.Tuple elts kk tpos) (.Call (.Name "enumerate" p) [e] [] pos) (iEnu f) := PI.imp (PI.or (pi_enum hg hm (sl_one h hs) hs) (pi_enumT hg hm (sl_one h hs) hs)) fun σ H R ⟨N0, F, Ad, M, env, m, en, r⟩ => by
  unfold iEnu at r
  cases q : f env M with
  | ok d M1 =>
    rw [q, MP.R.bindL_ok] at r
    have lift : ∀ P : V → Hp → Prop, (∀ v F1 Ad1 H1, Gr F Ad H F1 Ad1 H1 → MemOk X.K F1 Ad1 M1 H1 → Den X.K F1 Ad1 v d → P v H1) → tG X.K W (DE X.K) f σ H P := fun P hP =>
      ⟨N0, F, Ad, M, env, m, en, by rw [q]; exact hP⟩
    cases d with
    | lst xs =>
      refine .inl (lift _ fun v F1 Ad1 H1 g1 m1 x1 => ?_)
      cases x1 with
      | lst h r1 => exact ⟨_, _, rfl, SqL.of (m1.sub _ _ h), r _ [] F1 Ad1 H1 g1 m1 (it_e (atL_lst h r1)) (fun _ z => nomatch z) (fun _ z => nomatch z) fun _ => rfl⟩
    | tup xs =>
      refine .inr (lift _ fun v F1 Ad1 H1 g1 m1 x1 => ?_)
      cases x1 with
      | tup h r1 => exact ⟨_, _, rfl, sqT_sub m1 h.sq, r _ [] F1 Ad1 H1 g1 m1 (it_et (atT_tup h r1)) (fun _ z => nomatch z) (fun _ z => nomatch z) fun _ => rfl⟩
    | ktp xs =>
      refine .inr (lift _ fun v F1 Ad1 H1 g1 m1 x1 => ?_)
      cases x1 with
      | ktp h r1 => exact ⟨_, _, rfl, sqT_sub m1 h, r _ [] F1 Ad1 H1 g1 m1 (it_et (atT_ktp h r1)) (fun _ z => nomatch z) (fun _ z => nomatch z) fun _ => rfl⟩
    | _ => exact r.elim
  | exc x M1 => rw [q] at r; exact .inl ⟨N0, F, Ad, M, env, m, en, by rw [q]; exact r⟩
  | stuck => rw [q] at r; exact r.elim
def inR (i : Int) : Prop := i.natAbs / 1152921504606846976 = 0
theorem inR.b {i : Int} (h : inR i) : -(2 ^ 62) ≤ i ∧ i < 2 ^ 62 := by
  have h1 : i.natAbs < 1152921504606846976 := (Nat.div_eq_zero_iff_lt (by decide)).mp h
  have e : (2 : Int) ^ 62 = 4611686018427387904 := by decide
  rw [e]; omega
instance {i : Int} : Decidable (inR i) := by unfold inR; exact inferInstance
def iRng1 (a : EF) : LF := fun env M => (a env M).bindL fun d M1 => match d with
  | .int j => if inR j then .ok (rngD 0 j.toNat) M1 else .stuck
  | _ => .stuck
def iRng2 (a b : EF) : LF := fun env M => (a env M).bindL fun d M1 => (b env M1).bindL fun d2 M2 => match d, d2 with
  | .int i, .int j => if inR i ∧ inR j then .ok (rngD i (j - i).toNat) M2 else .stuck
  | _, _ => .stuck
theorem si_rng1 {a : Expr} (h : SE X W a f) (hg : Gl X "range") (hm : X.mg "range" = none) (hs : starEach [a] X.env = [(false, eval a X.env)] := by rfl) : SI X W true tg (.Call (.Name "range" p) [a] [] pos) (iRng1 f) :=
  PI.imp (pi_range1 hg hm (sl_one h hs) hs) fun σ H Rr ⟨N0, F, Ad, M, env, m, en, r⟩ => by
    unfold iRng1 at r
    refine ⟨N0, F, Ad, M, env, m, en, ?_⟩
    cases q : f env M with
    | ok d M1 =>
      rw [q, MP.R.bindL_ok] at r
      intro v F1 Ad1 H1 g1 m1 x1
      cases d with
      | int j =>
        cases x1
        by_cases hj : inR j
        · dsimp only at r; rw [if_pos hj] at r
          exact ⟨j, rfl, hj.b.1, hj.b.2, r _ [] F1 Ad1 H1 g1 m1 it_r (fun _ z => nomatch z) (fun _ z => nomatch z) fun _ => rfl⟩
        · dsimp only at r; rw [if_neg hj] at r; exact r.elim
      | _ => exact r.elim
    | exc x M1 => rw [q] at r; exact r
    | stuck => rw [q] at r; exact r
theorem si_rng2 {a b : Expr} (h : SE X W a f) (h' : SE X W b f') (hg : Gl X "range") (hm : X.mg "range" = none) (hs : starEach [a, b] X.env = [(false, eval a X.env), (false, eval b X.env)] := by rfl) (hs2 : starEach [b] X.env = [(false, eval b X.env)] := by rfl) :
    SI X W true tg (.Call (.Name "range" p) [a, b] [] pos) (iRng2 f f') :=
  PI.imp (pi_range2 hg hm (pa_cons h (sl_one h' hs2) (by rw [hs, hs2])) hs hs2) fun σ H Rr ⟨N0, F, Ad, M, env, m, en, r⟩ => by
    unfold iRng2 at r
    refine ⟨N0, F, Ad, M, env, m, en, ?_⟩
    cases q : f env M with
    | ok d M1 =>
      rw [q, MP.R.bindL_ok] at r
      intro v F1 Ad1 H1 g1 m1 x1
      refine ⟨N0, F1, Ad1, M1, env, m1, en.gr g1, ?_⟩
      cases q2 : f' env M1 with
      | ok d2 M2 =>
        rw [q2, MP.R.bindL_ok] at r
        intro v2 F2 Ad2 H2 g2 m2 x2
        cases d with
        | int i => cases d2 with
          | int j =>
            cases x1; cases x2
            by_cases hj : inR i ∧ inR j
            · dsimp only at r; rw [if_pos hj] at r
              exact ⟨i, j, rfl, ⟨hj.1.b.1, hj.1.b.2, hj.2.b.1, hj.2.b.2⟩, r _ [] F2 Ad2 H2 (g1.trans g2) m2 it_r (fun _ z => nomatch z) (fun _ z => nomatch z) fun _ => rfl⟩
            · dsimp only at r; rw [if_neg hj] at r; exact r.elim
          | _ => exact r.elim
        | _ => exact r.elim
      | exc x M2 => rw [q2] at r; exact fun cls dx F' Ad' H' g m' z => r cls dx F' Ad' H' (g1.trans g) m' z
      | stuck => rw [q2] at r; exact r
    | exc x M1 => rw [q] at r; exact r
    | stuck => rw [q] at r; exact r
def gN (j : Nat) (d : D) (env : EnvM) : Option EnvM := match env[j]? with
  | some (.slf _) => none
  | some _ => some (env.set j (.shr d))
  | none => none
def gAll : List Nat → List D → EnvM → Option EnvM
  | [], [], env => some env
  | j :: js, d :: ds, env => (gN j d env).bind (gAll js ds)
  | _, _, _ => none
def gT (js : List Nat) (d : D) (env : EnvM) : Option EnvM := match d with
  | .tup ds => gAll js ds env
  | _ => none
theorem EnvOk.set {j : Nat} {v : V} {d : D} {env' : EnvM} (en : EnvOk K N0 F Ad H σ env) (x : Den K F Ad v d) (h : gN j d env = some env') : EnvOk K N0 F Ad H (σ.set j (some v)) env' := by
  have hlt : j < env.length ∧ env' = env.set j (.shr d) ∧ ∀ e, env[j]? ≠ some (.slf e) := by
    unfold gN at h
    split at h
    · cases h
    · rename_i b hb hn
      cases h
      exact ⟨(List.getElem?_eq_some_iff.mp hn).1, rfl, fun e z => hb e (by rw [hn] at z; exact Option.some.inj z)⟩
    · cases h
  obtain ⟨hl, rfl, hns⟩ := hlt
  refine ⟨by simp [en.len], fun i d' hi => ?_, fun i d' hi => ?_, fun i k d1 d2 a h1 h2 h3 h4 => ?_, fun i d' hi => ?_, en.parM (FLe.refl _) (fun x d h1 h2 h3 h4 h5 => ⟨h1, h2, h4, fun z => h5 (z.set ⟨(by intro _ z; cases z), (by intro _ z; cases z)⟩)⟩) (par_set (by intro _ z; cases z)), fun i hi => ?_⟩
  · by_cases e : j = i
    · subst e
      rw [List.getElem?_set_self hl] at hi; cases hi
      exact ⟨v, by rw [List.getElem?_set_self (by rw [← en.len]; exact hl)], x⟩
    · rw [List.getElem?_set_ne e] at hi ⊢; exact en.shr i d' hi
  · by_cases e : j = i
    · subst e; rw [List.getElem?_set_self hl] at hi; cases hi
    · rw [List.getElem?_set_ne e] at hi ⊢; exact en.own i d' hi
  · have e1 : j ≠ i := fun e => by subst e; rw [List.getElem?_set_self hl] at h1; cases h1
    have e2 : j ≠ k := fun e => by subst e; rw [List.getElem?_set_self hl] at h2; cases h2
    rw [List.getElem?_set_ne e1] at h1 h3
    rw [List.getElem?_set_ne e2] at h2 h4
    exact en.dis i k d1 d2 a h1 h2 h3 h4
  · have e : j ≠ i := fun e => by subst e; rw [List.getElem?_set_self hl] at hi; cases hi
    rw [List.getElem?_set_ne e] at hi ⊢
    obtain ⟨h0, h1, h2, h3, h4, h5, h6⟩ := en.slf i d' hi
    refine ⟨h0, h1, h2, h3, h4, h5, fun k d2 hk => ?_⟩
    have e2 : j ≠ k := fun e => by subst e; rw [List.getElem?_set_self hl] at hk; cases hk
    rw [List.getElem?_set_ne e2] at hk ⊢
    exact h6 k d2 hk
  · have e : j ≠ i := fun e => by subst e; rw [List.getElem?_set_self hl] at hi; cases hi
    rw [List.getElem?_set_ne e] at hi ⊢
    exact en.raw i hi
theorem wipe_set {σ : St} {j : Nat} {v : Option V} : ∀ {vs : List Nat}, j ∈ vs → wipe (σ.set j v) vs = wipe σ vs
  | k :: vs, h => by
    unfold wipe
    by_cases e : j ∈ vs
    · rw [wipe_set e]
    · have ek : j = k := by simpa [e] using h
      subst ek
      have key : ∀ ws : List Nat, j ∉ ws → wipe (σ.set j v) ws = (wipe σ ws).set j v := by
        intro ws
        induction ws with
        | nil => intro _; rfl
        | cons w ws ih =>
          intro hn
          simp only [List.mem_cons, not_or] at hn
          unfold wipe
          rw [ih hn.2, List.set_comm _ _ hn.1]
      rw [key vs e, List.set_set]
structure TgOk (K : PySem.W.Frag) (js : List Nat) (gd : D → EnvM → Option EnvM) (g : TG) : Prop where
  ok : ∀ (N0 : Ent) (F : Hp) Ad M H σ env v d env' (Q : St → Hp → Prop), MemOk K F Ad M H → EnvOk K N0 F Ad H σ env → Den K F Ad v d → gd d env = some env' → (∀ σ', EnvOk K N0 F Ad H σ' env' → (∀ vs, (∀ j ∈ js, j ∈ vs) → wipe σ' vs = wipe σ vs) → Q σ' H) → g v σ H Q
theorem tg_n {j : Nat} : TgOk K [j] (gN j) (gName j) := ⟨fun N0 F Ad M H σ env v d env' Q m en x h q => q _ (en.set x h) fun vs hv => wipe_set (hv j (by simp))⟩
structure TgsOk (K : PySem.W.Frag) (js : List Nat) (g : TGs) : Prop where
  ok : ∀ (N0 : Ent) (F : Hp) Ad M H σ env vs ds env' (Q : St → Hp → Prop), MemOk K F Ad M H → EnvOk K N0 F Ad H σ env → DenL K F Ad vs ds → gAll js ds env = some env' → (∀ σ', EnvOk K N0 F Ad H σ' env' → (∀ us, (∀ j ∈ js, j ∈ us) → wipe σ' us = wipe σ us) → Q σ' H) → g vs σ H Q
theorem tgs_nil : TgsOk K [] gNil := ⟨fun N0 F Ad M H σ env vs ds env' Q m en x h q => by
  cases x with
  | nil => simp [gAll] at h; subst h; exact ⟨rfl, q σ en fun _ _ => rfl⟩
  | cons _ _ => simp [gAll] at h⟩
theorem tgs_cons {j : Nat} {js : List Nat} {g : TGs} (r : TgsOk K js g) : TgsOk K (j :: js) (gCons (gName j) g) := ⟨fun N0 F Ad M H σ env vs ds env' Q m en x h q => by
  cases x with
  | nil => simp [gAll] at h
  | @cons v d vs ds x1 x2 =>
    simp only [gAll, Option.bind_eq_some_iff] at h
    obtain ⟨env1, h1, h2⟩ := h
    refine ⟨v, vs, rfl, ?_⟩
    refine r.ok N0 F Ad M H _ env1 vs ds env' Q m (en.set x1 h1) x2 h2 fun σ' en' hw => q σ' en' fun us hu => ?_
    rw [hw us fun k hk => hu k (List.mem_cons_of_mem _ hk), wipe_set (hu j (by simp))]⟩
theorem tg_t {js : List Nat} {g : TGs} {n : Nat} (r : TgsOk K js g) (hn : js.length = n) : TgOk K js (gT js) (gTup K n g) := ⟨fun N0 F Ad M H σ env v d env' Q m en x h q => by
  unfold gT at h
  split at h
  · rename_i ds
    cases x with
    | tup h1 h2 =>
      refine ⟨_, _, rfl, sqT_sub m h1.sq, ?_, r.ok N0 F Ad M H σ env _ ds env' Q m en h2 h q⟩
      rw [h2.length, ← hn]
      have key : ∀ (js : List Nat) (ds : List D) (env : EnvM), gAll js ds env = some env' → ds.length = js.length := by
        intro js
        induction js with
        | nil => intro ds env h; cases ds with
          | nil => rfl
          | cons _ _ => simp [gAll] at h
        | cons j js ih => intro ds env h; cases ds with
          | nil => simp [gAll] at h
          | cons d ds =>
            simp only [gAll, Option.bind_eq_some_iff] at h
            obtain ⟨env1, h1, h2⟩ := h
            simp [ih ds env1 h2]
      exact key js ds env h
  · cases h⟩
end
end MP
set_option maxRecDepth 100000
set_option maxHeartbeats 1000000
namespace MP
open PySem PySem.Spec PyProof.Rows L2
variable [TabsP] [ThkP]
def wipeE (env : EnvM) : List Nat → EnvM
  | [] => env
  | v :: vs => (wipeE env vs).set v .no
def compL (gd : D → EnvM → Option EnvM) (ft fe : EF) (env0 : EnvM) : List D → List D → List D → R
  | [], acc, M => .ok (.lst acc) M
  | d :: ds, acc, M => match gd d env0 with
    | none => .stuck
    | some env1 => match ft env1 M with
      | .ok (.bl true) M1 => (match fe env1 M1 with
        | .ok y M2 => if acc.length < sizeLine then compL gd ft fe env0 ds (acc ++ [y]) M2 else .stuck
        | _ => .stuck)
      | .ok (.bl false) M1 => compL gd ft fe env0 ds acc M1
      | _ => .stuck
def eComp (l : LF) (gd : D → EnvM → Option EnvM) (ft fe : EF) (vs : List Nat) : EF := fun env M => (l env M).bind fun ds M1 => compL gd ft fe (wipeE env vs) ds [] M1
abbrev STs (X : Cx) (W : WX) (ifs : List Expr) (f : EF) : Prop := PTs X ifs (tT X.K W f)
section
variable {X : Cx} {W : WX} {K : PySem.W.Frag} {N0 : Ent} {F H : Hp} {Ad : List Addr} {M : List D} {env : EnvM} {σ : St} {e : Expr} {f : EF}
theorem PTs.imp {es : List Expr} {t u : TT} (h : PTs X es t) (i : ∀ σ H Q, u σ H Q → t σ H Q) : PTs X es u := ⟨fun pins s σ H Q I q => h.run pins s σ H Q I (i σ H Q q)⟩
theorem sts_nil : STs X W [] (eC (.bl true)) := PTs.imp pts_nil fun σ H Q ⟨N0, F, Ad, M, env, m, en, r⟩ => RPT.here (b := true) r m
theorem EnvOk.wipe1 {j : Nat} (en : EnvOk K N0 F Ad H σ env) : EnvOk K N0 F Ad H (σ.set j none) (env.set j .no) := by
  have hno : ∀ {i : Nat} {b : B}, (env.set j .no)[i]? = some b → b ≠ .no → j ≠ i ∧ env[i]? = some b := fun {i b} h hb => by
    by_cases e : j = i
    · subst e
      by_cases hl : j < env.length
      · rw [List.getElem?_set_self hl] at h; cases h; exact absurd rfl hb
      · rw [List.getElem?_eq_none (by simp; omega)] at h; cases h
    · rw [List.getElem?_set_ne e] at h; exact ⟨e, h⟩
  refine ⟨by simp [en.len], fun i d hi => ?_, fun i d hi => ?_, fun i k d1 d2 a h1 h2 h3 h4 => ?_, fun i d hi => ?_, en.parM (FLe.refl _) (fun x d h1 h2 h3 h4 h5 => ⟨h1, h2, h4, fun z => h5 (z.set ⟨(by intro _ z; cases z), (by intro _ z; cases z)⟩)⟩) (par_set (by intro _ z; cases z)), fun i hi => ?_⟩
  · obtain ⟨e, h⟩ := hno hi (fun z => nomatch z)
    rw [List.getElem?_set_ne e]; exact en.shr i d h
  · obtain ⟨e, h⟩ := hno hi (fun z => nomatch z)
    rw [List.getElem?_set_ne e]; exact en.own i d h
  · obtain ⟨e, h⟩ := hno h1 (fun z => nomatch z)
    obtain ⟨e', h'⟩ := hno h2 (fun z => nomatch z)
    rw [List.getElem?_set_ne e] at h3
    rw [List.getElem?_set_ne e'] at h4
    exact en.dis i k d1 d2 a h h' h3 h4
  · obtain ⟨e, h⟩ := hno hi (fun z => nomatch z)
    rw [List.getElem?_set_ne e]
    obtain ⟨h0, h1, h2, h3, h4, h5, h6⟩ := en.slf i d h
    refine ⟨h0, h1, h2, h3, h4, h5, fun k d2 hk => ?_⟩
    obtain ⟨e', h'⟩ := hno hk (fun z => nomatch z)
    rw [List.getElem?_set_ne e']
    exact h6 k d2 h'
  · obtain ⟨e, h⟩ := hno hi (fun z => nomatch z)
    rw [List.getElem?_set_ne e]
    exact en.raw i h
theorem EnvOk.wipe (en : EnvOk K N0 F Ad H σ env) : ∀ vs : List Nat, EnvOk K N0 F Ad H (L2.wipe σ vs) (wipeE env vs)
  | [] => en
  | v :: vs => (en.wipe vs).wipe1
theorem KsOk.gr {F' H' : Hp} {Ad' : List Addr} {ks : List (Addr × HO)} (g : Gr F Ad H F' Ad' H') (k : KsOk ks H) (n : ∀ k ∈ ks, F k.1 = none ∧ k.1 ∉ Ad ∧ RootO k.2) : KsOk ks H' := fun q hq => g.keep q.1 q.2 (k q hq) (n q hq).2.2 (n q hq).1 (n q hq).2.1
theorem lc_read {Wb : WX} {gd : D → EnvM → Option EnvM} {g : TG} {l : LF} {ft fe : EF} {js vs : List Nat} (tg : TgOk K js gd g) (hj : ∀ j ∈ js, j ∈ vs) {Q : VK} (h : tG K W (DO K) (eComp l gd ft fe vs) σ H Q) :
    tLc (tI K W false l) g (tT K WN ft) (tG K WN (DE K) fe) vs σ H Q := by
  obtain ⟨N0, F, Ad, M, env, m, en, r⟩ := h
  refine ⟨N0, F, Ad, M, env, m, en, ?_⟩
  unfold eComp at r
  cases ql : l env M with
  | exc x M1 => rw [ql] at r; exact r
  | stuck => rw [ql] at r; exact r
  | ok ds M1 =>
    rw [ql, RL.bind_ok] at r
    intro J ks F1 Ad1 H1 g1 m1 it k1 k2 _ D hD
    have en1 := en.gr g1
    let Inv' : Nat → Hp → Prop := fun i H2 => i ≤ ds.length ∧ ∃ F2 Ad2 M2 vacc acc, Gr F1 Ad1 H1 F2 Ad2 H2 ∧ MemOk K F2 Ad2 M2 H2 ∧ F2 D = none ∧ D ∉ Ad2 ∧ H2 D = some (.lst vacc) ∧ DenL K F2 Ad2 vacc acc ∧
      RP K (fun c d H => W c d σ H) (DO K) F Ad H Q (compL gd ft fe (wipeE env vs) (ds.drop i) acc M2)
    refine ⟨fun i mm H2 => mm = ds.length - i ∧ Inv' i H2, ⟨_, rfl, Nat.zero_le _, F1, Ad1, M1, [], [], gr_own hD, mem_own m1 hD, m1.none hD, m1.notin hD, upd_same, .nil, by simpa using r⟩, ?_⟩
    rintro i mm H2 ⟨rfl, hi, F2, Ad2, M2, vacc, acc, g2, m2, nF, nA, hH, da, r2⟩
    have kk := KsOk.gr g2 k1 k2
    by_cases hlt : i < ds.length
    · right
      refine ⟨it.go i F2 Ad2 M2 H2 hlt g2.fle g2.pre m2 kk, fun H' => Inv' (i + 1) H', fun H' h' => ⟨_, by omega, rfl, h'⟩, fun x H3 hy => ?_⟩
      obtain ⟨d, F3, hd, g3, m3, x3⟩ := it.yld i F2 Ad2 M2 H2 x H3 hlt g2.fle g2.pre m2 kk hy
      have hdrop : ds.drop i = d :: ds.drop (i + 1) := by
        rw [List.drop_eq_getElem_cons hlt]
        rw [List.getElem?_eq_getElem hlt] at hd
        cases hd; rfl
      rw [hdrop] at r2
      unfold compL at r2
      cases hg : gd d (wipeE env vs) with
      | none => rw [hg] at r2; exact r2.elim
      | some env1 =>
        rw [hg] at r2
        dsimp only at r2
        have g23 := g2.trans g3
        have enw : EnvOk K N0 F3 Ad2 H3 (L2.wipe σ vs) (wipeE env vs) := (en1.gr g23).wipe vs
        refine tg.ok N0 F3 Ad2 M2 H3 _ _ x d env1 _ m3 enw x3 hg fun σ' en' hw => ⟨?_, ?_⟩
        · have hwv := hw vs hj
          rw [hwv]
          have ww : ∀ ws : List Nat, (∀ w ∈ ws, w ∈ vs) → L2.wipe (L2.wipe σ vs) ws = L2.wipe σ vs := by
            intro ws
            induction ws with
            | nil => intro _; rfl
            | cons w ws ih =>
              intro hws
              show (L2.wipe (L2.wipe σ vs) ws).set w none = _
              rw [ih fun z hz => hws z (List.mem_cons_of_mem _ hz)]
              have hwm := hws w (by simp)
              have wn : ∀ us : List Nat, w ∈ us → (L2.wipe σ us).set w none = L2.wipe σ us := by
                intro us
                induction us with
                | nil => intro h; cases h
                | cons u us ih2 =>
                  intro h
                  show ((L2.wipe σ us).set u none).set w none = (L2.wipe σ us).set u none
                  by_cases e : w = u
                  · subst e; rw [List.set_set]
                  · rw [List.set_comm _ _ (fun z => e z.symm), ih2 (by simpa [e] using h)]
              exact wn vs hwm
          exact ww vs fun _ h => h
        · refine ⟨N0, F3, Ad2, M2, env1, m3, en', ?_⟩
          have hDH : ∀ {F4 Ad4 H4}, Gr F3 Ad2 H3 F4 Ad4 H4 → H4 D = some (.lst vacc) ∧ F4 D = none ∧ D ∉ Ad4 := fun {F4 Ad4 H4} g4 => by
            have e3 : H3 D = some (.lst vacc) := g3.keep D _ hH trivial nF nA
            have n3 : F3 D = none := g3.fnew D _ hH trivial nF nA
            exact ⟨g4.keep D _ e3 trivial n3 nA, g4.fnew D _ e3 trivial n3 nA, g4.notin (by rw [e3]; simp) nA⟩
          cases ht : ft env1 M2 with
          | exc x M3 => rw [ht] at r2; exact r2.elim
          | stuck => rw [ht] at r2; exact r2.elim
          | ok b M3 =>
            rw [ht] at r2
            cases b with
            | bl b =>
              intro F4 Ad4 H4 g4 m4
              have en4 := en'.gr g4
              cases b with
              | true =>
                dsimp only at r2
                rw [if_pos rfl]
                refine ⟨N0, F4, Ad4, M3, env1, m4, en4, ?_⟩
                cases he : fe env1 M3 with
                | exc x M5 => rw [he] at r2; exact r2.elim
                | stuck => rw [he] at r2; exact r2.elim
                | ok y M5 =>
                  rw [he] at r2
                  dsimp only at r2
                  intro v F5 Ad5 H5 g5 m5 x5
                  have g35 := g4.trans g5
                  obtain ⟨hD5, nF5, nA5⟩ := hDH g35
                  split at r2
                  · rename_i hsz
                    have g25 := g23.trans g35
                    have g_acc := g3.trans g35
                    have da5 := da.mono g_acc.fle g_acc.pre
                    have ap := da5.append (.cons x5 .nil)
                    refine ⟨vacc, hD5, by rw [da.length]; exact hsz, by omega, F5, Ad5, M5, _, acc ++ [y], ?_, ?_, nF5, nA5, upd_same, ap, r2⟩
                    · refine ⟨g25.fle, g25.fnew, g25.apre, fun a o ha ro hf hn => ?_, fun a ha => ?_⟩
                      · rw [upd_ne (fun e => by rw [e, hD] at ha; cases ha)]; exact g25.keep a o ha ro hf hn
                      · rw [upd_ne (fun e => ha (by rw [e]; exact hD))]; exact g25.alive a ha
                    · refine ⟨fun a u h => ?_, m5.len, m5.nd, fun n a d' h1 h2 => ?_, tabs_root m5.tab hD5 trivial⟩
                      · rw [upd_ne (fun e => by rw [e, nF5] at h; cases h)]; exact m5.sub a u h
                      · obtain ⟨z1, z2⟩ := m5.cel n a d' h1 h2
                        exact ⟨z1, z2.mono (FLe.refl _) (fun _ _ h => h) (by rw [upd_ne (fun e => nA5 (by rw [← e]; exact List.mem_of_getElem? h1))])⟩
                  · exact r2.elim
              | false =>
                dsimp only at r2
                rw [if_neg (by decide)]
                obtain ⟨hD4, nF4, nA4⟩ := hDH g4
                have g24 := g3.trans g4
                exact ⟨by omega, F4, Ad4, M3, vacc, acc, g2.trans g24, m4, nF4, nA4, hD4, da.mono g24.fle g24.pre, r2⟩
            | _ => exact r2.elim
    · left
      have hi2 : i = ds.length := by omega
      subst hi2
      refine ⟨it.stop F2 Ad2 M2 H2 g2.fle g2.pre m2 kk, ?_⟩
      rw [List.drop_length] at r2
      have hD0 : H D = none := by
        cases qq : H D with
        | none => rfl
        | some o => exact absurd hD (g1.alive D (by rw [qq]; simp))
      exact r2 (.ref D) F2 Ad2 H2 (g1.trans g2) m2 ⟨D, rfl, nF, nA, hD0, .lst hH da⟩
theorem so_lc {elt tg iter : Expr} {ifs : List Expr} {scope : Scope} {own : List (Str × Nat)} {pos : Pos} {gd : D → EnvM → Option EnvM} {g : TG} {l : LF} {ft fe : EF} {js : List Nat} (hc : X.calm = true) (hN : X.N.Nodup) (hi : SI X W false tg iter l) (ok : BlkOk X.N X.env.scope scope own)
    (tgo : TgOk X.K js gd g) (hj : ∀ j ∈ js, j ∈ own.map (·.2))
    (hg : ∀ (s : Shared) (H : Hp) (C : Addr) (cl : List (Str × Addr)) (fp : List Addr), PG (X.blk s H scope (compEnvC scope cl C X.env) fp) tg g) (ht : ∀ (s : Shared) (H : Hp) (C : Addr) (cl : List (Str × Addr)) (fp : List Addr), STs (X.blk s H scope (compEnvC scope cl C X.env) fp) WN ifs ft)
    (he : ∀ (s : Shared) (H : Hp) (C : Addr) (cl : List (Str × Addr)) (fp : List Addr), SE (X.blk s H scope (compEnvC scope cl C X.env) fp) WN elt fe) (hs : ∀ x, foldedSetIterable iter X.env x = pure x := by intro _; rfl) :
    SO X W (.ListComp elt [⟨tg, iter, ifs, 0⟩] scope pos) (eComp l gd ft fe (own.map (·.2))) :=
  PE.imp (pe_lc hc hN hi ok hg ht he hs) fun σ H Q h => lc_read (Wb := WN) tgo hj h
end
end MP
set_option maxRecDepth 100000
set_option maxHeartbeats 1000000
namespace MP
open PySem PySem.Spec PyProof.Rows L2
variable [TabsP] [ThkP]
theorem dictSetT {X : Cx} {pins : List (Addr × Obj)} {σ : St} {H : Hp} {s : Shared} {E : Value → Shared → Prop} {a b : Addr} {kvs : List (List Key × V)} {ks : List Key} {y : V} {r : Value} {Q : Unit → Shared → Prop} (hu : X.A.units + 1 < cLine) (I : Inv X pins σ H s)
    (ha : H a = some (.dT kvs)) (hz : kvs.length < sizeLine) (hb : H b = some (.tup (ks.map kV))) (ry : RelV y r) (h : ∀ s', Inv X pins σ (upd H a (.dT (putK kvs ks y))) s' → Q () s') : wpAny (model X.prog X.w) X.A (dictSet a (.ref b) r) Q E s := by
  obtain ⟨z, hd, xs, rel, dd⟩ := dt_of I.hok ha
  have l1 : xs.length ≤ sizeLine := by rw [← Paired.length rel]; exact z
  have l2 := length_putK kvs ks y
  refine wpAny_dictSet_heap (hsz := l1) (show (tupleKind (mixKind X.prog X.w)).room X.A from Nat.lt_of_succ_lt hu) (key_of I.hok hb) dd fun h1 d1 sb => h _ ?_
  obtain ⟨q, es, ep, e1, e2, e3, e4, _, e5⟩ := d1
  exact d_write I (by rw [ha]; exact trivial) sb ⟨q, e1⟩ ⟨by omega, hd, _, (rel.put ks hb ry).keeps fun c ys ec => by rw [upd_ne (ne_of ec ha fun w => nomatch w)]; exact ec, q, es, ep, e1, e2, e3, e4, e5⟩
def tDcT (wi : TI) (g : TG) (tt : TT) (tk tv : TE) (vs : List Nat) : TE := fun σ H Q => wi σ H fun J H1 => ∀ D, H1 D = none → ∃ W : Nat → Nat → Hp → Prop, (∃ m, W 0 m (upd H1 D (.dT []))) ∧ ∀ i m H, W i m H →
  (J.stop i H ∧ Q (.ref D) H) ∨ (J.go i H ∧ ∃ Nx : Hp → Prop, (∀ H', Nx H' → ∃ m', m' < m ∧ W (i + 1) m' H') ∧ ∀ x H', J.yld i H x H' → g x (wipe σ vs) H' fun σ2 H2 => wipe σ2 vs = wipe σ vs ∧ tt σ2 H2 fun b H3 =>
    if b = true then tk σ2 H3 fun y H4 => tv σ2 H4 fun z H5 => ∃ kvs ks c, y = .ref c ∧ H5 c = some (.tup (ks.map kV)) ∧ H5 D = some (.dT kvs) ∧ kvs.length < sizeLine ∧ Nx (upd H5 D (.dT (putK kvs ks z))) else Nx H3)
section
variable {X : Cx} {kx vx tg iter : Expr} {ifs : List Expr} {scope : Scope} {own : List (Str × Nat)} {pos : Pos} {wi : TI} {g : TG} {tt : TT} {tk tv : TE}
theorem pe_dcT (hu : X.A.units + 1 < cLine) (hc : X.calm = true) (hN : X.N.Nodup) (hi : PI X tg iter wi) (ok : BlkOk X.N X.env.scope scope own)
    (hg : ∀ (s : Shared) (H : Hp) (C : Addr) (cl : List (Str × Addr)) (fp : List Addr), PG (X.blk s H scope (compEnvC scope cl C X.env) fp) tg g)
    (ht : ∀ (s : Shared) (H : Hp) (C : Addr) (cl : List (Str × Addr)) (fp : List Addr), PTs (X.blk s H scope (compEnvC scope cl C X.env) fp) ifs tt)
    (hk : ∀ (s : Shared) (H : Hp) (C : Addr) (cl : List (Str × Addr)) (fp : List Addr), PE (X.blk s H scope (compEnvC scope cl C X.env) fp) kx tk)
    (hv : ∀ (s : Shared) (H : Hp) (C : Addr) (cl : List (Str × Addr)) (fp : List Addr), PE (X.blk s H scope (compEnvC scope cl C X.env) fp) vx tv) (hs : ∀ x, foldedSetIterable iter X.env x = pure x := by intro _; rfl) :
    PE X (.DictComp kx vx [⟨tg, iter, ifs, 0⟩] scope pos) (tDcT wi g tt tk tv (own.map (·.2))) := by
  refine ⟨fun pins s σ H Q I h => ?_⟩
  rw [arm_eval_DictComp]
  have hfr : ∀ y ∈ scope.names, y.2 = .free → ∃ c, X.env.cells.lookup y.1 = some c := fun y hy e => (ok.free y hy e).elim (fun k => I.ok.has _ (.inl k)) fun k => I.ok.has _ (.inr k)
  refine wpAny_comprehension_free (use := none) rfl hs (closure_ok hfr) ok.kind (fun y hy e => by rw [ok.uniq y hy, e]) (thn (hi.run pins s σ H _ I h) fun xv t1 hx => thn hx fun itv t2 k2 => ?_)
  obtain ⟨it, fp, tn, J, H2, rfl, I2, T, st2, f2, q⟩ := k2
  refine wpAny_newObj_type (newEnv_comp ?_)
  generalize eD : t2.heap.objs.size = D
  have nD : H2 D = none := I2.hok.fresh (Nat.le_of_eq eD)
  obtain ⟨W, ⟨m0, w0⟩, turn⟩ := q D nD
  generalize es3 : ({ t2 with heap := t2.heap.push { cls := .type "dict", data := .dict #[] } } : Shared) = t3
  have I3 : Inv X pins σ (upd H2 D (.dT [])) t3 := by
    subst es3
    refine I2.laid (t' := t2.toks) (fun b o e => Heap.get?_push_of_some _ e) (Nat.le_of_eq eD) ?_
    subst eD
    exact dt_empty t2.heap I2.big
  have eh3 : t3.heap = t2.heap.push { cls := .type "dict", data := .dict #[] } := by rw [← es3]
  have f3 : ∀ b ∈ fp, FpOk X pins (upd H2 D (.dT [])) b ∧ b < t3.heap.objs.size := fun b hb => by
    obtain ⟨ob, eo, _⟩ := T.obj _ _ st2 b hb
    have lt := Heap.lt_size eo
    exact ⟨⟨by rw [upd_ne (by rw [← eD]; exact Nat.ne_of_lt lt)]; exact (f2 b hb).1, (f2 b hb).2⟩, by rw [eh3, Heap.size_push]; exact Nat.lt_succ_of_lt lt⟩
  have st3 : tn 0 t3.heap := T.keep _ _ _ st2 fun b _ o e => by rw [eh3]; exact Heap.get?_push_of_some _ e
  have I4 := block_start I3 ok hN f3
  have pg := hg t3 (upd H2 D (.dT [])) t3.heap.objs.size (cellsFrom (t3.heap.objs.size + 1) scope.names (cloFrom X.env.cells scope.names [])) fp
  have pt := ht t3 (upd H2 D (.dT [])) t3.heap.objs.size (cellsFrom (t3.heap.objs.size + 1) scope.names (cloFrom X.env.cells scope.names [])) fp
  have pk := hk t3 (upd H2 D (.dT [])) t3.heap.objs.size (cellsFrom (t3.heap.objs.size + 1) scope.names (cloFrom X.env.cells scope.names [])) fp
  have pv := hv t3 (upd H2 D (.dT [])) t3.heap.objs.size (cellsFrom (t3.heap.objs.size + 1) scope.names (cloFrom X.env.cells scope.names [])) fp
  let RR := compPost (model X.prog X.w) X.A X.xe none (EP X pins σ Q) (.ref D) t3.heap.objs.size
  show codeAny _ _ (.compStart (.DictComp kx vx [⟨tg, iter, ifs, 0⟩] scope pos) 0 (.ref it) (.ref D) (compEnvC scope (cellsFrom (t3.heap.objs.size + 1) scope.names (cloFrom X.env.cells scope.names [])) t3.heap.objs.size X.env)) RR { t3 with heap := pushCells (t3.heap.push { cls := .type "dict", data := .dict #[] }) scope.names }
  have nfp : ∀ b ∈ fp, (upd H2 D (.dT [])) b = none := fun b hb => (f3 b hb).1.1
  generalize ece : compEnvC scope (cellsFrom (t3.heap.objs.size + 1) scope.names (cloFrom X.env.cells scope.names [])) t3.heap.objs.size X.env = ce at I4 pg pt pk pv ⊢
  have cL : ce.locals = t3.heap.objs.size := by subst ece; rfl
  generalize eH3 : upd H2 D (.dT []) = H3 at I3 I4 pg pt pk pv w0 nfp f3
  generalize es4 : ({ t3 with heap := pushCells (t3.heap.push { cls := .type "dict", data := .dict #[] }) scope.names } : Shared) = t4 at I4 ⊢
  have st4 : tn 0 t4.heap := T.keep _ _ _ st3 fun b _ o e => by rw [← es4]; exact pushCells_keeps _ _ _ _ (Heap.get?_push_of_some _ e)
  have stat : ∀ {σ' : St} {H' : Hp} {s' : Shared}, Inv (X.blk t3 H3 scope ce fp) [] σ' H' s' → (∀ b ∈ fp, H' b = none) → ∀ b ∈ fp, FpOk (X.blk t3 H3 scope ce fp) [] H' b := fun {σ' H' s'} I' hn b hb =>
    ⟨hn b hb, (I'.ok.exf b hb).1, I'.ok.exfs b hb, .inl hb, fun x c e => (I'.ok.exf b hb).2 x c e, fun p hp => by cases hp⟩
  have loop : codeAny (model X.prog X.w) X.A (.compLoop (.DictComp kx vx [⟨tg, iter, ifs, 0⟩] scope pos) 0 (.ref it) (.ref D) ce) RR t4 := by
    refine compLoop_anyD (fun n s' => ∃ i H', Inv (X.blk t3 H3 scope ce fp) [] (wipe σ (own.map (·.2))) H' s' ∧ tn i s'.heap ∧ (∀ b ∈ fp, H' b = none) ∧ W i n H') ?_ m0 ⟨0, H3, I4, st4, nfp, w0⟩
    rintro n t5 ⟨i, H5, I5, st5, n5, w5⟩
    rcases turn i n H5 w5 with ⟨stop, qq⟩ | ⟨go, Nx, hNx, step⟩
    · refine thnF (T.done (X.blk t3 H3 scope ce fp) rfl rfl rfl hc i [] t5 _ H5 (fun _ _ => False) I5 (stat I5 n5) st5 stop) fun r t6 ⟨er, I6⟩ => ?_
      subst er
      have I7 : Inv X pins σ H5 t6 := I3.call' (ch := fp) I6.os I6.base I6.hok I6.bare fun b hb => let z := (f3 b hb).1; ⟨z.2.2.2.1, z.2.1, z.2.2.2.2.1, z.2.2.2.2.2⟩
      have nC : H5 t3.heap.objs.size = none := cL ▸ (show H5 ce.locals = none from I6.free)
      obtain ⟨m, hn, _⟩ := I6.loc
      obtain ⟨p0, p1, p2, p3, p4, p5⟩ := I3.fpOk (b := t3.heap.objs.size) (Nat.le_refl _) nC
      exact ⟨m, cL ▸ hn, fun h2 sb => ⟨.ref D, H5, I7.turned (t' := t6.toks) (fun b o hb e => (sb.2 b hb).trans e) p0 p1 p3 p4 p5, rfl, qq⟩⟩
    · refine thnF (T.item (X.blk t3 H3 scope ce fp) rfl rfl rfl hc i [] t5 _ H5 (fun _ _ => False) I5 (stat I5 n5) st5 go) fun r t6 ⟨u, er, k6⟩ => ?_
      subst er
      refine thnF k6 fun _ t7 ⟨x, H7, I7, r7, y7, st7, n7⟩ => ?_
      refine thnF (pg.run _ t7 _ H7 x u _ (I7.pinned (stat I7 n7) (T.obj _ _ st7)) r7 (step x H7 y7)) fun _ t8 ⟨σ8, H8, I8, hw8, q8⟩ => ?_
      refine thnF (pt.run _ t8 σ8 H8 _ I8 q8) fun b t9 ⟨H9, I9, q9⟩ => ?_
      have fin : ∀ {s' : Shared} {H' : Hp}, Inv (X.blk t3 H3 scope ce fp) ([] ++ pinsAt fp t7.heap) σ8 H' s' → Nx H' → ∃ m, m < n ∧ ∃ i H', Inv (X.blk t3 H3 scope ce fp) [] (wipe σ (own.map (·.2))) H' s' ∧ tn i s'.heap ∧ (∀ b ∈ fp, H' b = none) ∧ W i m H' := fun {s' H'} I' nx => by
        obtain ⟨m1, lm, w1⟩ := hNx H' nx
        have pin : ∀ b ∈ fp, ∀ o, t7.heap.get? b = some o → s'.heap.get? b = some o ∧ H' b = none := fun b hb o e => by
          have z := I'.pin (b, o) (List.mem_append_right _ (List.mem_append_right _ (mem_pinsAt hb e)))
          exact ⟨z.1, z.2.1⟩
        refine ⟨m1, lm, i + 1, H', (I'.unpinned (pins := [])).weak (by rw [← hw8, wipe_length]) (fun j v e => (wipe_some (hw8 ▸ e)).1), T.keep _ _ _ st7 fun b hb o e => (pin b hb o e).1, fun b hb => ?_, w1⟩
        obtain ⟨o, e, _⟩ := T.obj _ _ st7 b hb
        exact (pin b hb o e).2
      cases b with
      | false => exact fin I9 q9
      | true =>
        refine thnF (pk.run _ t9 σ8 H9 _ I9 q9) fun z t10 ⟨yk, H10, I10, r10, q10⟩ => ?_
        refine thnF (pv.run _ t10 σ8 H10 _ I10 q10) fun z2 t11 ⟨yv, H11, I11, r11, kvs, ks, c, ek, hc11, hD11, hz11, nx⟩ => ?_
        subst ek
        cases r10
        exact dictSetT (X := X.blk t3 H3 scope ce fp) hu I11 hD11 hz11 hc11 r11 fun t12 I12 => fin I12 nx
  exact codeAny_compStart_dict loop (T.self X.A 0 _ _ _ st4 loop)
end
def dcompT (gd : D → EnvM → Option EnvM) (ft fk fe : EF) (env0 : EnvM) : List D → List (List Key × D) → List D → R
  | [], acc, M => .ok (.dT acc) M
  | d :: ds, acc, M => match gd d env0 with
    | none => .stuck
    | some env1 => match ft env1 M with
      | .ok (.bl true) M1 => (match fk env1 M1 with
        | .ok (.tup kd) M2 => (match keysD kd with
          | some ks => (match fe env1 M2 with
            | .ok y M3 => if acc.length < sizeLine then dcompT gd ft fk fe env0 ds (insK acc ks y) M3 else .stuck
            | _ => .stuck)
          | none => .stuck)
        | _ => .stuck)
      | .ok (.bl false) M1 => dcompT gd ft fk fe env0 ds acc M1
      | _ => .stuck
def eDcT (l : LF) (gd : D → EnvM → Option EnvM) (ft fk fe : EF) (vs : List Nat) : EF := fun env M => (l env M).bind fun ds M1 => dcompT gd ft fk fe (wipeE env vs) ds [] M1
theorem wipe_wipe {σ : St} (vs : List Nat) : L2.wipe (L2.wipe σ vs) vs = L2.wipe σ vs := by
  have wn : ∀ (w : Nat) (us : List Nat), w ∈ us → (L2.wipe σ us).set w none = L2.wipe σ us := by
    intro w us
    induction us with
    | nil => intro h; cases h
    | cons u us ih2 =>
      intro h
      show ((L2.wipe σ us).set u none).set w none = (L2.wipe σ us).set u none
      by_cases e : w = u
      · subst e; rw [List.set_set]
      · rw [List.set_comm _ _ (fun z => e z.symm), ih2 (by simpa [e] using h)]
  have ww : ∀ ws : List Nat, (∀ w ∈ ws, w ∈ vs) → L2.wipe (L2.wipe σ vs) ws = L2.wipe σ vs := by
    intro ws
    induction ws with
    | nil => intro _; rfl
    | cons w ws ih =>
      intro hws
      show (L2.wipe (L2.wipe σ vs) ws).set w none = _
      rw [ih fun z hz => hws z (List.mem_cons_of_mem _ hz)]
      exact wn w vs (hws w (by simp))
  exact ww vs fun _ h => h
section
variable {X : Cx} {W : WX} {K : PySem.W.Frag} {N0 : Ent} {F F1 H H1 : Hp} {Ad Ad1 : List Addr} {M : List D} {env : EnvM} {σ : St} {e : Expr} {f : EF}
theorem wr_fresh {a : Addr} {o : HO} (g : Gr F Ad H F1 Ad1 H1) (m : MemOk K F1 Ad1 M H1) (h0 : H a = none) (nF : F1 a = none) (nA : a ∉ Ad1) {u0 : HO} (hu : H1 a = some u0) (ru : RootO u0) : Gr F Ad H F1 Ad1 (upd H1 a o) ∧ MemOk K F1 Ad1 M (upd H1 a o) := by
  refine ⟨⟨g.fle, g.fnew, g.apre, fun b u hb ro hf hn => ?_, fun b hb => ?_⟩, ⟨fun b u h => ?_, m.len, m.nd, fun n b d' h1 h2 => ?_, tabs_root m.tab hu ru⟩⟩
  · rw [upd_ne (fun e => by rw [e, h0] at hb; cases hb)]; exact g.keep b u hb ro hf hn
  · rw [upd_ne (fun e => hb (by rw [e]; exact h0))]; exact g.alive b hb
  · rw [upd_ne (fun e => by rw [e, nF] at h; cases h)]; exact m.sub b u h
  · obtain ⟨z1, z2⟩ := m.cel n b d' h1 h2
    exact ⟨z1, z2.mono (FLe.refl _) (fun _ _ h => h) (by rw [upd_ne (fun e => nA (by rw [← e]; exact List.mem_of_getElem? h1))])⟩
theorem tup_of {v : V} {kd : List D} {ks : List Key} (m : MemOk K F Ad M H) (x : Den K F Ad v (.tup kd)) (e : keysD kd = some ks) : ∃ c, v = .ref c ∧ H c = some (.tup (ks.map kV)) ∧ F c = some (.tup (ks.map kV)) := by
  cases x with
  | tup h r =>
    have h := h.key r e
    have z := keysD_v r e
    subst z
    exact ⟨_, rfl, m.sub _ _ h, h⟩
theorem dc_read {gd : D → EnvM → Option EnvM} {g : TG} {l : LF} {ft fk fe : EF} {js vs : List Nat} (tg : TgOk K js gd g) (hj : ∀ j ∈ js, j ∈ vs) {Q : VK} (h : tG K W (DO K) (eDcT l gd ft fk fe vs) σ H Q) :
    tDcT (tI K W false l) g (tT K WN ft) (tG K WN (DE K) fk) (tG K WN (DE K) fe) vs σ H Q := by
  obtain ⟨N0, F, Ad, M, env, m, en, r⟩ := h
  refine ⟨N0, F, Ad, M, env, m, en, ?_⟩
  unfold eDcT at r
  cases ql : l env M with
  | exc x M1 => rw [ql] at r; exact r
  | stuck => rw [ql] at r; exact r
  | ok ds M1 =>
    rw [ql, RL.bind_ok] at r
    intro J ks F1 Ad1 H1 g1 m1 it k1 k2 _ D hD
    have en1 := en.gr g1
    let Inv' : Nat → Hp → Prop := fun i H2 => i ≤ ds.length ∧ ∃ F2 Ad2 M2 vacc acc, Gr F1 Ad1 H1 F2 Ad2 H2 ∧ MemOk K F2 Ad2 M2 H2 ∧ F2 D = none ∧ D ∉ Ad2 ∧ H2 D = some (.dT vacc) ∧ DenT K F2 Ad2 vacc acc ∧
      RP K (fun c d H => W c d σ H) (DO K) F Ad H Q (dcompT gd ft fk fe (wipeE env vs) (ds.drop i) acc M2)
    refine ⟨fun i mm H2 => mm = ds.length - i ∧ Inv' i H2, ⟨_, rfl, Nat.zero_le _, F1, Ad1, M1, [], [], gr_own hD, mem_own m1 hD, m1.none hD, m1.notin hD, upd_same, .nil, by simpa using r⟩, ?_⟩
    rintro i mm H2 ⟨rfl, hi, F2, Ad2, M2, vacc, acc, g2, m2, nF, nA, hH, da, r2⟩
    have kk := KsOk.gr g2 k1 k2
    by_cases hlt : i < ds.length
    · right
      refine ⟨it.go i F2 Ad2 M2 H2 hlt g2.fle g2.pre m2 kk, fun H' => Inv' (i + 1) H', fun H' h' => ⟨_, by omega, rfl, h'⟩, fun x H3 hy => ?_⟩
      obtain ⟨d, F3, hd, g3, m3, x3⟩ := it.yld i F2 Ad2 M2 H2 x H3 hlt g2.fle g2.pre m2 kk hy
      have hdrop : ds.drop i = d :: ds.drop (i + 1) := by
        rw [List.drop_eq_getElem_cons hlt]
        rw [List.getElem?_eq_getElem hlt] at hd
        cases hd; rfl
      rw [hdrop] at r2
      unfold dcompT at r2
      cases hg : gd d (wipeE env vs) with
      | none => rw [hg] at r2; exact r2.elim
      | some env1 =>
        rw [hg] at r2
        dsimp only at r2
        have g23 := g2.trans g3
        have enw : EnvOk K N0 F3 Ad2 H3 (L2.wipe σ vs) (wipeE env vs) := (en1.gr g23).wipe vs
        refine tg.ok N0 F3 Ad2 M2 H3 _ _ x d env1 _ m3 enw x3 hg fun σ' en' hw => ⟨by rw [hw vs hj]; exact wipe_wipe vs, ?_⟩
        refine ⟨N0, F3, Ad2, M2, env1, m3, en', ?_⟩
        have hDH : ∀ {F4 Ad4 H4}, Gr F3 Ad2 H3 F4 Ad4 H4 → H4 D = some (.dT vacc) ∧ F4 D = none ∧ D ∉ Ad4 := fun {F4 Ad4 H4} g4 => by
          have e3 : H3 D = some (.dT vacc) := g3.keep D _ hH trivial nF nA
          have n3 : F3 D = none := g3.fnew D _ hH trivial nF nA
          exact ⟨g4.keep D _ e3 trivial n3 nA, g4.fnew D _ e3 trivial n3 nA, g4.notin (by rw [e3]; simp) nA⟩
        cases ht : ft env1 M2 with
        | exc x M3 => rw [ht] at r2; exact r2.elim
        | stuck => rw [ht] at r2; exact r2.elim
        | ok b M3 =>
          rw [ht] at r2
          cases b with
          | bl b =>
            intro F4 Ad4 H4 g4 m4
            have en4 := en'.gr g4
            cases b with
            | true =>
              dsimp only at r2
              rw [if_pos rfl]
              refine ⟨N0, F4, Ad4, M3, env1, m4, en4, ?_⟩
              cases hk : fk env1 M3 with
              | exc x M5 => rw [hk] at r2; exact r2.elim
              | stuck => rw [hk] at r2; exact r2.elim
              | ok kd M5 =>
                rw [hk] at r2
                cases kd with
                | tup kd =>
                  dsimp only at r2
                  cases hks : keysD kd with
                  | none => rw [hks] at r2; exact r2.elim
                  | some ks' =>
                    rw [hks] at r2
                    dsimp only at r2
                    intro v F5 Ad5 H5 g5 m5 x5
                    refine ⟨N0, F5, Ad5, M5, env1, m5, en4.gr g5, ?_⟩
                    obtain ⟨c, ev, ec, eF⟩ := tup_of m5 x5 hks
                    cases he : fe env1 M5 with
                    | exc x M6 => rw [he] at r2; exact r2.elim
                    | stuck => rw [he] at r2; exact r2.elim
                    | ok y M6 =>
                      rw [he] at r2
                      dsimp only at r2
                      intro v6 F6 Ad6 H6 g6 m6 x6
                      have g36 := g4.trans (g5.trans g6)
                      obtain ⟨hD6, nF6, nA6⟩ := hDH g36
                      split at r2
                      · rename_i hsz
                        have gacc := g3.trans g36
                        have da6 := da.mono gacc.fle gacc.pre
                        have cH : H6 c = some (.tup (ks'.map kV)) := m6.sub _ _ (nrm_tup (g6.fle c (.tup _) (by rw [eF]; rfl)))
                        obtain ⟨gw, mw⟩ := wr_fresh (o := .dT (putK vacc ks' v6)) (g23.trans g36) m6 hD nF6 nA6 hD6 trivial
                        exact ⟨vacc, ks', c, ev, cH, hD6, by rw [da.length]; exact hsz, by omega, F6, Ad6, M6, _, _, gw, mw, nF6, nA6, upd_same, da6.put x6, r2⟩
                      · exact r2.elim
                | _ => exact r2.elim
            | false =>
              dsimp only at r2
              rw [if_neg (by decide)]
              obtain ⟨hD4, nF4, nA4⟩ := hDH g4
              have g24 := g3.trans g4
              exact ⟨by omega, F4, Ad4, M3, vacc, acc, g2.trans g24, m4, nF4, nA4, hD4, da.mono g24.fle g24.pre, r2⟩
          | _ => exact r2.elim
    · left
      have hi2 : i = ds.length := by omega
      subst hi2
      refine ⟨it.stop F2 Ad2 M2 H2 g2.fle g2.pre m2 kk, ?_⟩
      rw [List.drop_length] at r2
      have hD0 : H D = none := by
        cases qq : H D with
        | none => rfl
        | some o => exact absurd hD (g1.alive D (by rw [qq]; simp))
      exact r2 (.ref D) F2 Ad2 H2 (g1.trans g2) m2 ⟨D, rfl, nF, nA, hD0, .dT hH da⟩
theorem so_dcT {kx vx tg iter : Expr} {ifs : List Expr} {scope : Scope} {own : List (Str × Nat)} {pos : Pos} {gd : D → EnvM → Option EnvM} {g : TG} {l : LF} {ft fk fe : EF} {js : List Nat} (hu : X.A.units + 1 < cLine) (hc : X.calm = true) (hN : X.N.Nodup) (hi : SI X W false tg iter l) (ok : BlkOk X.N X.env.scope scope own)
    (tgo : TgOk X.K js gd g) (hj : ∀ j ∈ js, j ∈ own.map (·.2))
    (hg : ∀ (s : Shared) (H : Hp) (C : Addr) (cl : List (Str × Addr)) (fp : List Addr), PG (X.blk s H scope (compEnvC scope cl C X.env) fp) tg g) (ht : ∀ (s : Shared) (H : Hp) (C : Addr) (cl : List (Str × Addr)) (fp : List Addr), STs (X.blk s H scope (compEnvC scope cl C X.env) fp) WN ifs ft)
    (hk : ∀ (s : Shared) (H : Hp) (C : Addr) (cl : List (Str × Addr)) (fp : List Addr), SE (X.blk s H scope (compEnvC scope cl C X.env) fp) WN kx fk)
    (he : ∀ (s : Shared) (H : Hp) (C : Addr) (cl : List (Str × Addr)) (fp : List Addr), SE (X.blk s H scope (compEnvC scope cl C X.env) fp) WN vx fe) (hs : ∀ x, foldedSetIterable iter X.env x = pure x := by intro _; rfl) :
    SO X W (.DictComp kx vx [⟨tg, iter, ifs, 0⟩] scope pos) (eDcT l gd ft fk fe (own.map (·.2))) :=
  PE.imp (pe_dcT hu hc hN hi ok hg ht hk he hs) fun σ H Q h => dc_read tgo hj h
end
end MP
set_option maxRecDepth 100000
set_option maxHeartbeats 1000000
namespace MP
open PySem PySem.Spec PyProof.Rows L2
variable [TabsP] [ThkP]
abbrev GrE (N0 : Ent) (F : Hp) (Ad : List Addr) (H : Hp) : Prop := Gr N0.fz N0.ad N0.hp F Ad H
def RPS (K : PySem.W.Frag) (W : WX) (DR : DRel) (D : Ends) (N0 : Ent) (F : Hp) (Ad : List Addr) : RS → Prop
  | .next env M => ∀ σ F' Ad' H', GrE N0 F' Ad' H' → FLe F F' → Pre Ad Ad' → MemOk K F' Ad' M H' → EnvOk K N0 F' Ad' H' σ env → D.nx σ H'
  | .ret d M => ∀ v F' Ad' H', GrE N0 F' Ad' H' → MemOk K F' Ad' M H' → DR N0.hp F' Ad' H' v d → D.rt v H'
  | .brk env M => ∀ σ F' Ad' H', GrE N0 F' Ad' H' → FLe F F' → Pre Ad Ad' → MemOk K F' Ad' M H' → EnvOk K N0 F' Ad' H' σ env → D.bk σ H'
  | .cont env M => ∀ σ F' Ad' H', GrE N0 F' Ad' H' → FLe F F' → Pre Ad Ad' → MemOk K F' Ad' M H' → EnvOk K N0 F' Ad' H' σ env → D.ct σ H'
  | .exc x env M => ∀ cls dx σ F' Ad' H', GrE N0 F' Ad' H' → FLe F F' → Pre Ad Ad' → MemOk K F' Ad' M H' → EnvOk K N0 F' Ad' H' σ env → XOk K F' Ad' H' x cls dx → W cls dx σ H'
  | .stuck => False
def tS (K : PySem.W.Frag) (W : WX) (DR : DRel) (b : SF) : TS := fun D σ H => ∃ N0 F Ad M env, GrE N0 F Ad H ∧ MemOk K F Ad M H ∧ EnvOk K N0 F Ad H σ env ∧ RPS K W DR D N0 F Ad (b env M)
abbrev SS (X : Cx) (W : WX) (DR : DRel) (st : Stmt) (b : SF) : Prop := PS X st (tS X.K W DR b)
abbrev SSs (X : Cx) (W : WX) (DR : DRel) (st : List Stmt) (b : SF) : Prop := PSs X st (tS X.K W DR b)
def bSeq (a b : SF) : SF := fun env M => match a env M with
  | .next env M => b env M
  | r => r
def bNext : SF := fun env M => .next env M
section
variable {X : Cx} {W : WX} {K : PySem.W.Frag} {DR : DRel} {D : Ends} {N0 : Ent} {F F1 H H1 : Hp} {Ad Ad1 : List Addr} {M : List MP.D} {env : EnvM} {σ : St} {e tg iter : Expr} {f : EF} {st : Stmt} {rest p q : List Stmt} {b b' : SF} {pos : Pos} {l : LF}
theorem Pre.trans {A B C : List Addr} (h : Pre A B) (h' : Pre B C) : Pre A C := fun n a q => h' n a (h n a q)
theorem RPS.gr {r : RS} (h : RPS K W DR D N0 F Ad r) (l : FLe F F1) (p : Pre Ad Ad1) : RPS K W DR D N0 F1 Ad1 r := by
  cases r with
  | next env M => exact fun σ F' Ad' H' g l' p' => h σ F' Ad' H' g (l.trans l') (p.trans p')
  | ret d M => exact h
  | brk env M => exact fun σ F' Ad' H' g l' p' => h σ F' Ad' H' g (l.trans l') (p.trans p')
  | cont env M => exact fun σ F' Ad' H' g l' p' => h σ F' Ad' H' g (l.trans l') (p.trans p')
  | exc x env M => exact fun cls dx σ F' Ad' H' g l' p' => h cls dx σ F' Ad' H' g (l.trans l') (p.trans p')
  | stuck => exact h
theorem ss_nil : SSs X W DR [] bNext := PSs.imp pss_nil fun D σ H ⟨N0, F, Ad, M, env, g, m, en, r⟩ => r σ F Ad H g (FLe.refl F) pre_refl m en
theorem tS_seq {t : SF} (h : tS K W DR (bSeq b t) D σ H) : tS K W DR b { D with nx := tS K W DR t D } σ H := by
  obtain ⟨N0, F, Ad, M, env, g, m, en, r⟩ := h
  refine ⟨N0, F, Ad, M, env, g, m, en, ?_⟩
  unfold bSeq at r
  cases q : b env M with
  | next env1 M1 => rw [q] at r; exact fun σ' F' Ad' H' g' l' p' m' en' => ⟨N0, F', Ad', M1, env1, g', m', en', RPS.gr r l' p'⟩
  | ret d M1 => rw [q] at r; exact r
  | brk env1 M1 => rw [q] at r; exact r
  | cont env1 M1 => rw [q] at r; exact r
  | exc x env1 M1 => rw [q] at r; exact r
  | stuck => rw [q] at r; exact r
theorem ss_cons (h : SS X W DR st b) (h' : SSs X W DR rest b') : SSs X W DR (st :: rest) (bSeq b b') := PSs.imp (pss_cons h h') fun D σ H x => tS_seq x
theorem ss_one (h : SS X W DR st b) : SSs X W DR [st] b := pss_one h
theorem tE_of {DE' : DRel} {k : MP.D → List MP.D → RS} {Q : VK} (g : GrE N0 F Ad H) (m : MemOk K F Ad M H) (en : EnvOk K N0 F Ad H σ env)
    (r : RPS K W DR D N0 F Ad ((f env M).bindS env k)) (hq : ∀ d M1 v F1 Ad1 H1, Gr F Ad H F1 Ad1 H1 → GrE N0 F1 Ad1 H1 → MemOk K F1 Ad1 M1 H1 → EnvOk K N0 F1 Ad1 H1 σ env → DE' H F1 Ad1 H1 v d → RPS K W DR D N0 F1 Ad1 (k d M1) → Q v H1) : tG K W DE' f σ H Q := by
  refine ⟨N0, F, Ad, M, env, m, en, ?_⟩
  unfold MP.R.bindS at r
  cases q : f env M with
  | ok d M1 => rw [q] at r; exact fun v F' Ad' H' g' m' x => hq d M1 v F' Ad' H' g' (g.trans g') m' (en.gr g') x (RPS.gr r g'.fle g'.pre)
  | exc x M1 => rw [q] at r; exact fun cls dx F' Ad' H' g' m' z => r cls dx σ F' Ad' H' (g.trans g') g'.fle g'.pre m' (en.gr g') z
  | stuck => rw [q] at r; exact r
theorem tT_of {k : MP.D → List MP.D → RS} {Q : Bool → Hp → Prop} (g : GrE N0 F Ad H) (m : MemOk K F Ad M H) (en : EnvOk K N0 F Ad H σ env)
    (r : RPS K W DR D N0 F Ad ((f env M).bindS env k)) (hn : ∀ d M1, (∀ c, d ≠ .bl c) → k d M1 = .stuck) (hq : ∀ c M1 F1 Ad1 H1, GrE N0 F1 Ad1 H1 → MemOk K F1 Ad1 M1 H1 → EnvOk K N0 F1 Ad1 H1 σ env → RPS K W DR D N0 F1 Ad1 (k (.bl c) M1) → Q c H1) : tT K W f σ H Q := by
  refine ⟨N0, F, Ad, M, env, m, en, ?_⟩
  unfold MP.R.bindS at r
  cases q : f env M with
  | ok d M1 =>
    rw [q] at r
    cases d with
    | bl c => exact fun F' Ad' H' g' m' => hq c M1 F' Ad' H' (g.trans g') m' (en.gr g') (RPS.gr r g'.fle g'.pre)
    | _ => dsimp only at r; rw [hn _ M1] at r; exact r.elim; intro c z; cases z
  | exc x M1 => rw [q] at r; exact fun cls dx F' Ad' H' g' m' z => r cls dx σ F' Ad' H' (g.trans g') g'.fle g'.pre m' (en.gr g') z
  | stuck => rw [q] at r; exact r
def bPass : SF := fun env M => .next env M
def bBrk : SF := fun env M => .brk env M
def bCont : SF := fun env M => .cont env M
def bStuck : SF := fun _ _ => .stuck
theorem ss_never : SS X W DR st bStuck := PS.imp ps_never fun D σ H ⟨N0, F, Ad, M, env, g, m, en, r⟩ => r
def bRet (f : EF) : SF := fun env M => (f env M).bindS env fun d M1 => .ret d M1
theorem ss_ret (dr : DRok DR) (h : PE X e (tG X.K W DR f)) : SS X W DR (.Return (some e) pos) (bRet f) := PS.imp (ps_ret h) fun D σ H ⟨N0, F, Ad, M, env, g, m, en, r⟩ =>
  tE_of g m en r fun d M1 v F1 Ad1 H1 g1 ge m1 en1 x1 r1 => r1 v F1 Ad1 H1 ge m1 (dr _ _ _ _ _ _ _ _ _ _ _ g x1)
def bRetN : SF := fun _ M => .ret .non M
def bExpr (f : EF) : SF := fun env M => (f env M).bindS env fun _ M1 => .next env M1
theorem ss_expr {DR' : DRel} (h : PE X e (tG X.K W DR' f)) (hs : swapsWith e none pos.line X.env = pure false := by rfl) : SS X W DR (.Expr e pos) (bExpr f) := PS.imp (ps_expr h hs) fun D σ H ⟨N0, F, Ad, M, env, g, m, en, r⟩ =>
  tE_of g m en r fun d M1 v F1 Ad1 H1 g1 ge m1 en1 x1 r1 => r1 σ F1 Ad1 H1 ge (FLe.refl _) pre_refl m1 en1
def bIf (f : EF) (a b : SF) : SF := fun env M => (f env M).bindS env fun d M1 => match d with
  | .bl true => a env M1
  | .bl false => b env M1
  | _ => .stuck
theorem ss_if {c : Expr} (hc : ST X W c f) (ha : SSs X W DR p b) (hb : SSs X W DR q b') : SS X W DR (.If c p q pos) (bIf f b b') := PS.imp (ps_if hc ha hb) fun D σ H ⟨N0, F, Ad, M, env, g, m, en, r⟩ =>
  tT_of g m en r (fun d M1 hd => by cases d <;> first | rfl | exact absurd rfl (hd _)) fun c M1 F1 Ad1 H1 ge m1 en1 r1 => by
    cases c with
    | true => exact ⟨N0, F1, Ad1, M1, env, ge, m1, en1, r1⟩
    | false => exact ⟨N0, F1, Ad1, M1, env, ge, m1, en1, r1⟩
def bSet (j : Nat) (f : EF) : SF := fun env M => (f env M).bindS env fun d M1 => match gN j d env with
  | some env1 => .next env1 M1
  | none => .stuck
theorem ss_asg {gd : MP.D → EnvM → Option EnvM} {g : TG} {js : List Nat} (tgo : TgOk X.K js gd g) {t : TS} (h : PS X st t) (ht : ∀ D σ H, tAsg (tG X.K W (DE X.K) f) g D σ H → t D σ H) : SS X W DR st (fun env M => (f env M).bindS env fun d M1 => match gd d env with
  | some env1 => .next env1 M1
  | none => .stuck) := PS.imp h fun D σ H ⟨N0, F, Ad, M, env, ge0, m, en, r⟩ => ht D σ H (tE_of ge0 m en r fun d M1 v F1 Ad1 H1 g1 ge m1 en1 x1 r1 => by
    cases hd : gd d env with
    | none => rw [hd] at r1; exact r1.elim
    | some env1 =>
      rw [hd] at r1
      exact tgo.ok N0 F1 Ad1 M1 H1 σ env v d env1 _ m1 en1 x1 hd fun σ' en' _ => r1 σ' F1 Ad1 H1 ge (FLe.refl _) pre_refl m1 en')
theorem ss_set {i : Nat} {x : Str} {pos' : Pos} (hN : X.N.Nodup) (hi : X.N[i]? = some x) (hx : Loc X.env.scope x) (he : SE X W e f) (hs : swapsWith e (some (.Name x pos')) pos.line X.env = pure false := by rfl) (hf : X.fn x = true ∨ X.env.scope.names.lookup x = some .local := by first | exact .inl rfl | exact .inr rfl | assumption) :
    SS X W DR (.Assign [.Name x pos'] e pos) (bSet i f) := ss_asg tg_n (ps_set hN hi hx he hs hf) fun D σ H h => h
def bSetT (js : List Nat) (f : EF) : SF := fun env M => (f env M).bindS env fun d M1 => match gT js d env with
  | some env1 => .next env1 M1
  | none => .stuck
theorem ss_setT {js : List Nat} {n : Nat} {g : TGs} (tgo : TgsOk X.K js g) (hn : js.length = n) (hg : PG X tg (gTup X.K n g)) (he : SE X W e f) (hs : swapsWithSole [tg] e pos.line X.env = pure false := by rfl) (hw : swappedStores [tg] e X.env = pure none := by rfl)
    (h1 : (assignEach [tg] X.env).map (·.2) = [assign tg X.env] := by rfl) : SS X W DR (.Assign [tg] e pos) (bSetT js f) := ss_asg (tg_t tgo hn) (ps_asg he hg hs hw h1) fun D σ H h => h
def oN (j : Nat) (d : MP.D) (env : EnvM) : Option EnvM := match env[j]? with
  | some (.slf _) => none
  | some _ => some (env.set j (.own d))
  | none => none
def bOwn (j : Nat) (f : EF) : SF := fun env M => (f env M).bindS env fun d M1 => match oN j d env with
  | some env1 => .next env1 M1
  | none => .stuck
theorem EnvOk.setOwn {j : Nat} {v : V} {d : MP.D} {env' : EnvM} (en0 : EnvOk K N0 F Ad H σ env) (g0 : GrE N0 F Ad H) (g1 : Gr F Ad H F1 Ad1 H1) (x : DO K H F1 Ad1 H1 v d) (h : oN j d env = some env') : EnvOk K N0 F1 Ad1 H1 (σ.set j (some v)) env' := by
  have hlt : j < env.length ∧ env' = env.set j (.own d) ∧ ∀ e, env[j]? ≠ some (.slf e) := by
    unfold oN at h
    split at h
    · cases h
    · rename_i b hb hn
      cases h
      exact ⟨(List.getElem?_eq_some_iff.mp hn).1, rfl, fun e z => hb e (by rw [hn] at z; exact Option.some.inj z)⟩
    · cases h
  obtain ⟨hl, rfl, hns⟩ := hlt
  obtain ⟨a, rfl, h1, h2, h3, h4⟩ := x
  have en := en0.gr g1
  have n0 : N0.hp a = none := by
    cases qq : N0.hp a with
    | none => rfl
    | some o => exact absurd h3 (g0.alive a (by rw [qq]; simp))
  have ha0 : ∀ (i : Nat) (d2 : MP.D), env[i]? = some (B.own d2) → σ[i]? ≠ some (some (V.ref a)) := fun i d2 hi z => by
    obtain ⟨c, c1, c2, c3, c4, c5⟩ := en0.own i d2 hi
    rw [z] at c1
    have : c = a := by
      have q := Option.some.inj (Option.some.inj c1)
      cases q; rfl
    obtain ⟨o, ho, _⟩ := c5.obj
    rw [this, h3] at ho; cases ho
  refine ⟨by simp [en.len], fun i d' hi => ?_, fun i d' hi => ?_, fun i k d1 d2 c q1 q2 q3 q4 => ?_, fun i d' hi => ?_, fun i d' hi => ?_, fun i hi => ?_⟩
  · by_cases e : j = i
    · subst e; rw [List.getElem?_set_self hl] at hi; cases hi
    · rw [List.getElem?_set_ne e] at hi ⊢; exact en.shr i d' hi
  · by_cases e : j = i
    · subst e
      rw [List.getElem?_set_self hl] at hi; cases hi
      exact ⟨a, by rw [List.getElem?_set_self (by rw [← en.len]; exact hl)], h1, h2, n0, h4⟩
    · rw [List.getElem?_set_ne e] at hi ⊢; exact en.own i d' hi
  · by_cases e1 : j = i
    · subst e1
      rw [List.getElem?_set_self (by rw [← en.len]; exact hl)] at q3
      cases q3
      by_cases e2 : j = k
      · exact e2
      · rw [List.getElem?_set_ne e2] at q2 q4
        exact absurd q4 (ha0 k d2 q2)
    · rw [List.getElem?_set_ne e1] at q1 q3
      by_cases e2 : j = k
      · subst e2
        rw [List.getElem?_set_self (by rw [← en.len]; exact hl)] at q4
        cases q4
        exact absurd q3 (ha0 i d1 q1)
      · rw [List.getElem?_set_ne e2] at q2 q4
        exact en.dis i k d1 d2 c q1 q2 q3 q4
  · have e : j ≠ i := fun e => by subst e; rw [List.getElem?_set_self hl] at hi; cases hi
    rw [List.getElem?_set_ne e] at hi ⊢
    obtain ⟨z0, z1, z2, z3, z4, z5, z6⟩ := en.slf i d' hi
    refine ⟨z0, z1, z2, z3, z4, z5, fun k d2 hk z => ?_⟩
    by_cases e2 : j = k
    · subst e2
      rw [List.getElem?_set_self (by rw [← en.len]; exact hl)] at z
      have : a = N0.me := by
        have q := Option.some.inj (Option.some.inj z)
        cases q; rfl
      obtain ⟨_, _, _, _, _, c5, _⟩ := en0.slf i d' hi
      obtain ⟨o, ho, _⟩ := c5.obj
      rw [← this, h3] at ho; cases ho
    · rw [List.getElem?_set_ne e2] at hk z
      exact z6 k d2 hk z
  · refine en0.parM g1.fle (fun x dd h1' h2' h3' h4' h5' => ⟨g1.fnew x _ h4'.obj.choose_spec.1 h4'.obj.choose_spec.2 h1' h2', g1.notin (by rw [h4'.obj.choose_spec.1]; simp) h2', h4'.gr g1 h1' h2', fun z => ?_⟩) (par_set (by intro _ z; cases z)) i d' hi
    have nxa : x ≠ a := fun e => by obtain ⟨o, ho, _⟩ := h4'.obj; rw [e, h3] at ho; cases ho
    rcases z with ⟨k, e, z1, z2⟩ | ⟨k, e, z1, z2⟩
    · by_cases e2 : j = k
      · subst e2
        rw [List.getElem?_set_self (by rw [← en.len]; exact hl)] at z2
        exact nxa (by have q := Option.some.inj (Option.some.inj z2); cases q; rfl)
      · rw [List.getElem?_set_ne e2] at z1 z2
        exact h5' (.inl ⟨k, e, z1, z2⟩)
    · by_cases e2 : j = k
      · subst e2
        rw [List.getElem?_set_self hl] at z1; cases z1
      · rw [List.getElem?_set_ne e2] at z1
        exact h5' (.inr ⟨k, e, z1, z2⟩)
  · have e : j ≠ i := fun e => by subst e; rw [List.getElem?_set_self hl] at hi; cases hi
    rw [List.getElem?_set_ne e] at hi ⊢
    exact en.raw i hi
theorem ss_asgO {i : Nat} {t : TS} (h : PS X st t) (ht : ∀ D σ H, tAsg (tG X.K W (DO X.K) f) (gName i) D σ H → t D σ H) : SS X W DR st (bOwn i f) := PS.imp h fun D σ H ⟨N0, F, Ad, M, env, ge0, m, en, r⟩ => ht D σ H (tE_of ge0 m en r fun d M1 v F1 Ad1 H1 g1 ge m1 en1 x1 r1 => by
    cases hd : oN i d env with
    | none => rw [hd] at r1; exact r1.elim
    | some env1 =>
      rw [hd] at r1
      exact r1 _ F1 Ad1 H1 ge (FLe.refl _) pre_refl m1 (en.setOwn ge0 g1 x1 hd))
theorem ss_own {i : Nat} {x : Str} {pos' : Pos} (hN : X.N.Nodup) (hi : X.N[i]? = some x) (hx : Loc X.env.scope x) (he : SO X W e f) (hs : swapsWith e (some (.Name x pos')) pos.line X.env = pure false := by rfl) (hf : X.fn x = true ∨ X.env.scope.names.lookup x = some .local := by first | exact .inl rfl | exact .inr rfl | assumption) :
    SS X W DR (.Assign [.Name x pos'] e pos) (bOwn i f) := ss_asgO (ps_set hN hi hx he hs hf) fun D σ H h => h
theorem ss_lc {i : Nat} {y : Str} {py : Pos} {elt : Expr} {ifs : List Expr} {scope : Scope} {own : List (Str × Nat)} {spos : Pos} {gd : MP.D → EnvM → Option EnvM} {g : TG} {ft fe : EF} {js : List Nat} (hc : X.calm = true) (hN : X.N.Nodup) (hy : X.N[i]? = some y) (hyl : X.env.scope.names.lookup y = some .local)
    (hsw : swapsWith (.ListComp elt [⟨tg, iter, ifs, 0⟩] scope pos) (some (.Name y py)) spos.line X.env = pure true) (hi : SI X W false tg iter l) (ok : BlkOk X.N X.env.scope scope own)
    (tgo : TgOk X.K js gd g) (hj : ∀ j ∈ js, j ∈ own.map (·.2))
    (hg : ∀ (s : Shared) (H : Hp) (C : Addr) (cl : List (Str × Addr)) (fp : List Addr), PG (X.blk s H scope (compEnvC scope cl C X.env) fp) tg g) (ht : ∀ (s : Shared) (H : Hp) (C : Addr) (cl : List (Str × Addr)) (fp : List Addr), STs (X.blk s H scope (compEnvC scope cl C X.env) fp) WN ifs ft)
    (he : ∀ (s : Shared) (H : Hp) (C : Addr) (cl : List (Str × Addr)) (fp : List Addr), SE (X.blk s H scope (compEnvC scope cl C X.env) fp) WN elt fe) (hs : ∀ x, foldedSetIterable iter X.env x = pure x := by intro _; rfl) :
    SS X W DR (.Assign [.Name y py] (.ListComp elt [⟨tg, iter, ifs, 0⟩] scope pos) spos) (bOwn i (eComp l gd ft fe (own.map (·.2)))) :=
  ss_asgO (ps_setLc hc hN hy hyl hsw hi ok hg ht he hs) fun D σ H h => lc_read (Wb := WN) tgo hj h
theorem wr_own {a : Addr} {o' : HO} {d d' : MP.D} {i : Nat} (g : GrE N0 F Ad H) (m : MemOk K F Ad M H) (en : EnvOk K N0 F Ad H σ env) (hi : env[i]? = some (.own d)) (ha : σ[i]? = some (some (.ref a))) (r : Root K F Ad (upd H a o') a d') :
    GrE N0 F Ad (upd H a o') ∧ MemOk K F Ad M (upd H a o') ∧ EnvOk K N0 F Ad (upd H a o') σ (env.set i (.own d')) := by
  obtain ⟨c, c1, c2, c3, c4, c5⟩ := en.own i d hi
  rw [ha] at c1
  cases c1
  have hl : i < env.length := (List.getElem?_eq_some_iff.mp hi).1
  refine ⟨⟨g.fle, g.fnew, g.apre, fun b o hb ro hf hn => ?_, fun b hb => ?_⟩, ⟨fun b u hb => ?_, m.len, m.nd, fun n b e h1 h2 => ?_, (let ⟨_, hu, ru⟩ := c5.obj; tabs_root m.tab hu ru)⟩, ⟨by simp [en.len], fun j e hj => ?_, fun j e hj => ?_, fun j k e1 e2 b h1 h2 h3 h4 => ?_, fun j e hj => ?_, en.parM (FLe.refl _) (fun x dd h1 h2 h3 h4 h5 => ⟨h1, h2, h4.mono (FLe.refl _) (fun _ _ h => h) (upd_ne fun z => h5 (z ▸ .inl ⟨i, d, hi, ha⟩)), fun z => h5 (z.setE ⟨.inr ⟨d, hi⟩, .inl (by intro _ z; cases z)⟩)⟩) (par_setE (by intro _ z; cases z)), fun j hj => ?_⟩⟩
  · rw [upd_ne (fun e => by rw [e, c4] at hb; cases hb)]; exact g.keep b o hb ro hf hn
  · by_cases e : b = a
    · subst e; rw [upd_same]; simp
    · rw [upd_ne e]; exact g.alive b hb
  · rw [upd_ne (fun e => by rw [e, c2] at hb; cases hb)]; exact m.sub b u hb
  · obtain ⟨z1, z2⟩ := m.cel n b e h1 h2
    exact ⟨z1, z2.mono (FLe.refl _) (fun _ _ h => h) (by rw [upd_ne (fun e => c3 (by rw [← e]; exact List.mem_of_getElem? h1))])⟩
  · have e1 : i ≠ j := fun e1 => by subst e1; rw [List.getElem?_set_self hl] at hj; cases hj
    rw [List.getElem?_set_ne e1] at hj; exact en.shr j e hj
  · by_cases e1 : i = j
    · subst e1
      rw [List.getElem?_set_self hl] at hj; cases hj
      exact ⟨a, ha, c2, c3, c4, r⟩
    · rw [List.getElem?_set_ne e1] at hj
      obtain ⟨b, b1, b2, b3, b4, b5⟩ := en.own j e hj
      have ne : b ≠ a := fun z => by subst z; exact e1 (en.dis i j d e b hi hj ha b1)
      exact ⟨b, b1, b2, b3, b4, b5.mono (FLe.refl _) (fun _ _ h => h) (by rw [upd_ne ne])⟩
  · have q1 : ∃ e1', env[j]? = some (.own e1') := by
      by_cases e : i = j
      · subst e; exact ⟨_, hi⟩
      · rw [List.getElem?_set_ne e] at h1; exact ⟨_, h1⟩
    have q2 : ∃ e2', env[k]? = some (.own e2') := by
      by_cases e : i = k
      · subst e; exact ⟨_, hi⟩
      · rw [List.getElem?_set_ne e] at h2; exact ⟨_, h2⟩
    obtain ⟨_, q1⟩ := q1
    obtain ⟨_, q2⟩ := q2
    exact en.dis j k _ _ b q1 q2 h3 h4
  · have e1 : i ≠ j := fun e1 => by subst e1; rw [List.getElem?_set_self hl] at hj; cases hj
    rw [List.getElem?_set_ne e1] at hj
    obtain ⟨z0, z1, z2, z3, z4, z5, z6⟩ := en.slf j e hj
    have ne : N0.me ≠ a := fun z => z6 i d hi (by rw [ha, z])
    refine ⟨z0, z1, z2, z3, z4, z5.mono (FLe.refl _) (fun _ _ h => h) (by rw [upd_ne ne]), fun k d2 hk => ?_⟩
    by_cases e2 : i = k
    · subst e2; exact z6 i d hi
    · rw [List.getElem?_set_ne e2] at hk; exact z6 k d2 hk
  · have e1 : i ≠ j := fun e1 => by subst e1; rw [List.getElem?_set_self hl] at hj; cases hj
    rw [List.getElem?_set_ne e1] at hj; exact ⟨(en.raw j hj).1, (en.raw j hj).2.1, ⟨g.fle, g.fnew, g.apre, fun b o hb ro hf hn => (by rw [upd_ne (fun e => by rw [e, c4] at hb; cases hb)]; exact g.keep b o hb ro hf hn), fun b hb => (by
      by_cases e : b = a
      · subst e; rw [upd_same]; simp
      · rw [upd_ne e]; exact g.alive b hb)⟩⟩
theorem wr_slf {o' : HO} {d d' : MP.D} {i : Nat} (g : GrE N0 F Ad H) (m : MemOk K F Ad M H) (en : EnvOk K N0 F Ad H σ env) (hi : env[i]? = some (.slf d)) (r : Root K F Ad (upd H N0.me o') N0.me d') :
    GrE N0 F Ad (upd H N0.me o') ∧ MemOk K F Ad M (upd H N0.me o') ∧ EnvOk K N0 F Ad (upd H N0.me o') σ (env.set i (.slf d')) := by
  obtain ⟨c0, c1, c2, c3, c4, c5, c6⟩ := en.slf i d hi
  have hl : i < env.length := (List.getElem?_eq_some_iff.mp hi).1
  refine ⟨⟨g.fle, g.fnew, g.apre, fun b o hb ro hf hn => ?_, fun b hb => ?_⟩, ⟨fun b u hb => ?_, m.len, m.nd, fun n b e h1 h2 => ?_, (let ⟨_, hu, ru⟩ := c5.obj; tabs_root m.tab hu ru)⟩, ⟨by simp [en.len], fun j e hj => ?_, fun j e hj => ?_, fun j k e1 e2 b h1 h2 h3 h4 => ?_, fun j e hj => ?_, en.parM (FLe.refl _) (fun x dd h1 h2 h3 h4 h5 => ⟨h1, h2, h4.mono (FLe.refl _) (fun _ _ h => h) (upd_ne fun z => h5 (z ▸ .inr ⟨i, d, hi, rfl⟩)), fun z => h5 (z.setE ⟨.inl (by intro _ z; cases z), .inr ⟨d, hi⟩⟩)⟩) (par_setE (by intro _ z; cases z)), fun j hj => ?_⟩⟩
  · rw [upd_ne (fun e => by rw [e, c4] at hb; cases hb)]; exact g.keep b o hb ro hf hn
  · by_cases e : b = N0.me
    · subst e; rw [upd_same]; simp
    · rw [upd_ne e]; exact g.alive b hb
  · rw [upd_ne (fun e => by rw [e, c2] at hb; cases hb)]; exact m.sub b u hb
  · obtain ⟨z1, z2⟩ := m.cel n b e h1 h2
    exact ⟨z1, z2.mono (FLe.refl _) (fun _ _ h => h) (by rw [upd_ne (fun e => c3 (by rw [← e]; exact List.mem_of_getElem? h1))])⟩
  · have e1 : i ≠ j := fun e1 => by subst e1; rw [List.getElem?_set_self hl] at hj; cases hj
    rw [List.getElem?_set_ne e1] at hj; exact en.shr j e hj
  · have e1 : i ≠ j := fun e1 => by subst e1; rw [List.getElem?_set_self hl] at hj; cases hj
    rw [List.getElem?_set_ne e1] at hj
    obtain ⟨b, b1, b2, b3, b4, b5⟩ := en.own j e hj
    have ne : b ≠ N0.me := fun z => c6 j e hj (by rw [b1, z])
    exact ⟨b, b1, b2, b3, b4, b5.mono (FLe.refl _) (fun _ _ h => h) (by rw [upd_ne ne])⟩
  · have e1' : i ≠ j := fun e1 => by subst e1; rw [List.getElem?_set_self hl] at h1; cases h1
    have e2' : i ≠ k := fun e1 => by subst e1; rw [List.getElem?_set_self hl] at h2; cases h2
    rw [List.getElem?_set_ne e1'] at h1
    rw [List.getElem?_set_ne e2'] at h2
    exact en.dis j k _ _ b h1 h2 h3 h4
  · by_cases e1 : i = j
    · subst e1
      rw [List.getElem?_set_self hl] at hj; cases hj
      refine ⟨c0, c1, c2, c3, c4, r, fun k d2 hk => ?_⟩
      by_cases e2 : i = k
      · subst e2; rw [List.getElem?_set_self hl] at hk; cases hk
      · rw [List.getElem?_set_ne e2] at hk; exact c6 k d2 hk
    · rw [List.getElem?_set_ne e1] at hj
      obtain ⟨z0, _⟩ := en.slf j e hj
      exact absurd (c0.trans z0.symm) e1
  · have e1 : i ≠ j := fun e1 => by subst e1; rw [List.getElem?_set_self hl] at hj; cases hj
    rw [List.getElem?_set_ne e1] at hj; exact ⟨(en.raw j hj).1, (en.raw j hj).2.1, ⟨g.fle, g.fnew, g.apre, fun b o hb ro hf hn => (by rw [upd_ne (fun e => by rw [e, c4] at hb; cases hb)]; exact g.keep b o hb ro hf hn), fun b hb => (by
      by_cases e : b = N0.me
      · subst e; rw [upd_same]; simp
      · rw [upd_ne e]; exact g.alive b hb)⟩⟩
theorem wr_cel {a : Addr} {n : Nat} {o' : HO} {d' : MP.D} (g : GrE N0 F Ad H) (m : MemOk K F Ad M H) (en : EnvOk K N0 F Ad H σ env) (hn : Ad[n]? = some a) (r : Root K F Ad (upd H a o') a d') (hg : ∀ b o, N0.hp b = some o → b ∉ N0.ad → b ≠ a) :
    GrE N0 F Ad (upd H a o') ∧ MemOk K F Ad (M.set n d') (upd H a o') ∧ EnvOk K N0 F Ad (upd H a o') σ env := by
  have hF : F a = none := by
    have hlt : n < M.length := by rw [← m.len]; exact (List.getElem?_eq_some_iff.mp hn).1
    exact (m.cel n a _ hn (List.getElem?_eq_getElem hlt)).1
  refine ⟨⟨g.fle, g.fnew, g.apre, fun b o hb ro hf hna => ?_, fun b hb => ?_⟩, ⟨fun b u hb => ?_, by rw [m.len]; simp, m.nd, fun k b e h1 h2 => ?_, (let ⟨_, hu, ru⟩ := (m.cel n a _ hn (List.getElem?_eq_getElem (by rw [← m.len]; exact (List.getElem?_eq_some_iff.mp hn).1))).2.obj; tabs_root m.tab hu ru)⟩, ⟨en.len, fun j e hj => en.shr j e hj, fun j e hj => ?_, en.dis, fun j e hj => ?_, en.parM (FLe.refl _) (fun x dd h1 h2 h3 h4 h5 => ⟨h1, h2, h4.mono (FLe.refl _) (fun _ _ h => h) (upd_ne fun z => h2 (z ▸ List.mem_of_getElem? hn)), h5⟩) (fun _ _ h => ⟨h, rfl⟩), fun j hj => ⟨(en.raw j hj).1, (en.raw j hj).2.1, ⟨g.fle, g.fnew, g.apre, fun b o hb ro hf hna => (by rw [upd_ne (hg b o hb hna)]; exact g.keep b o hb ro hf hna), fun b hb => (by
      by_cases e : b = a
      · subst e; rw [upd_same]; simp
      · rw [upd_ne e]; exact g.alive b hb)⟩⟩⟩⟩
  · rw [upd_ne (hg b o hb hna)]; exact g.keep b o hb ro hf hna
  · by_cases e : b = a
    · subst e; rw [upd_same]; simp
    · rw [upd_ne e]; exact g.alive b hb
  · rw [upd_ne (fun e => by rw [e, hF] at hb; cases hb)]; exact m.sub b u hb
  · by_cases e1 : n = k
    · subst e1
      rw [hn] at h1; cases h1
      rw [List.getElem?_set_self (by rw [← m.len]; exact (List.getElem?_eq_some_iff.mp hn).1)] at h2
      cases h2
      exact ⟨hF, r⟩
    · rw [List.getElem?_set_ne e1] at h2
      obtain ⟨z1, z2⟩ := m.cel k b e h1 h2
      have ne : b ≠ a := fun z => by
        subst z
        exact e1 ((List.getElem?_inj (List.getElem?_eq_some_iff.mp hn).1 m.nd).mp (hn.trans h1.symm))
      exact ⟨z1, z2.mono (FLe.refl _) (fun _ _ h => h) (by rw [upd_ne ne])⟩
  · obtain ⟨b, b1, b2, b3, b4, b5⟩ := en.own j e hj
    have ne : b ≠ a := fun z => b3 (by rw [z]; exact List.mem_of_getElem? hn)
    exact ⟨b, b1, b2, b3, b4, b5.mono (FLe.refl _) (fun _ _ h => h) (by rw [upd_ne ne])⟩
  · obtain ⟨z0, z1, z2, z3, z4, z5, z6⟩ := en.slf j e hj
    have ne : N0.me ≠ a := fun z => z3 (by rw [z]; exact List.mem_of_getElem? hn)
    exact ⟨z0, z1, z2, z3, z4, z5.mono (FLe.refl _) (fun _ _ h => h) (by rw [upd_ne ne]), z6⟩
theorem cel_off {a : Addr} (g : GrE N0 F Ad H) (hn : a ∈ Ad) : ∀ b o, N0.hp b = some o → b ∉ N0.ad → b ≠ a := fun b o hb hna e => by
  subst e
  obtain ⟨more, e1, e2⟩ := g.apre
  rw [e1] at hn
  rcases List.mem_append.mp hn with z | z
  · exact hna z
  · rw [e2 b z] at hb; cases hb
end
end MP
set_option maxRecDepth 100000
set_option maxHeartbeats 1000000
namespace MP
open PySem PySem.Spec PyProof.Rows L2
variable [TabsP] [ThkP]
def cont (i : Nat) (env : EnvM) (M : List D) : Option D := match env[i]? with
  | some (.own d) => some d
  | some (.slf d) => some d
  | some (.shr (.cel n)) => M[n]?
  | _ => none
def store (i : Nat) (u : D → Option D) : SF := fun env M => match env[i]? with
  | some (.own d) => (match u d with | some d' => .next (env.set i (.own d')) M | none => .stuck)
  | some (.slf d) => (match u d with | some d' => .next (env.set i (.slf d')) M | none => .stuck)
  | some (.shr (.cel n)) => (match M[n]? with
    | some d => (match u d with | some d' => .next env (M.set n d') | none => .stuck)
    | none => .stuck)
  | _ => .stuck
def putFD (f : Str) (v : D) : List (Str × D) → List (Str × D)
  | [] => [(f, v)]
  | (g, x) :: r => if g = f then (g, v) :: r else (g, x) :: putFD f v r
def stSub (k v d : D) : Option D := match d with
  | .lst xs => (match k with
    | .int i => (match ixN xs.length i with | some j => some (.lst (xs.set j v)) | none => none)
    | _ => none)
  | .dK kvs => (match keyD k with
    | some q => if kvs.length < sizeLine then some (.dK (insK kvs q v)) else none
    | none => none)
  | .dT kvs => (match k with
    | .tup ks => (match keysD ks with
      | some q => if kvs.length < sizeLine then some (.dT (insK kvs q v)) else none
      | none => none)
    | _ => none)
  | _ => none
def stApp (v d : D) : Option D := match d with
  | .lst xs => if xs.length < sizeLine then some (.lst (xs ++ [v])) else none
  | _ => none
def stFld (c f : Str) (v d : D) : Option D := match d with
  | .ins c' fs => if c' = c ∧ fs.length < 1000 then some (.ins c (putFD f v fs)) else none
  | _ => none
section
variable {X : Cx} {W : WX} {K : PySem.W.Frag} {DR : DRel} {E : Ends} {N0 : Ent} {F F1 H H1 : Hp} {Ad Ad1 : List Addr} {M : List D} {env : EnvM} {σ : St} {e tg iter : Expr} {f fk fv : EF} {st : Stmt} {rest p q body : List Stmt} {b b' : SF} {pos : Pos} {l : LF} {i : Nat} {u : D → Option D}
theorem DenF.put {g : Str} {v d} : ∀ {vs ds}, DenF K F Ad vs ds → Den K F Ad v d → DenF K F Ad (putF g v vs) (putFD g d ds)
  | _, _, .nil, h => .cons h .nil
  | _, _, .cons (k := k) q r, h => by
    unfold putF putFD
    by_cases e : k = g
    · rw [if_pos e, if_pos e]; exact .cons h r
    · rw [if_neg e, if_neg e]; exact .cons q (r.put h)
theorem store_ok (g : GrE N0 F Ad H) (m : MemOk K F Ad M H) (en : EnvOk K N0 F Ad H σ env) (r : RPS K W DR E N0 F Ad (store i u env M)) :
    ∃ a d d', σ[i]? = some (some (.ref a)) ∧ cont i env M = some d ∧ u d = some d' ∧ Root K F Ad H a d ∧ ∀ o', Root K F Ad (upd H a o') a d' → E.nx σ (upd H a o') := by
  unfold store at r
  split at r
  · rename_i d hd
    split at r
    · rename_i d' hu
      obtain ⟨a, c1, c2, c3, c4, c5⟩ := en.own i d hd
      refine ⟨a, d, d', c1, by unfold cont; rw [hd], hu, c5, fun o' ro => ?_⟩
      obtain ⟨g', m', en'⟩ := wr_own g m en hd c1 ro
      exact r σ F Ad _ g' (FLe.refl _) pre_refl m' en'
    · exact r.elim
  · rename_i d hd
    split at r
    · rename_i d' hu
      obtain ⟨c0, c1, c2, c3, c4, c5, c6⟩ := en.slf i d hd
      refine ⟨_, d, d', c1, by unfold cont; rw [hd], hu, c5, fun o' ro => ?_⟩
      obtain ⟨g', m', en'⟩ := wr_slf g m en hd ro
      exact r σ F Ad _ g' (FLe.refl _) pre_refl m' en'
    · exact r.elim
  · rename_i n hn
    split at r
    · rename_i d hd
      split at r
      · rename_i d' hu
        obtain ⟨v, c1, c2⟩ := en.shr i _ hn
        cases c2 with
        | @cel a _ ha =>
          refine ⟨a, d, d', c1, by unfold cont; rw [hn]; exact hd, hu, (m.cel n a d ha hd).2, fun o' ro => ?_⟩
          obtain ⟨g', m', en'⟩ := wr_cel g m en ha ro (cel_off g (List.mem_of_getElem? ha))
          exact r σ F Ad _ g' (FLe.refl _) pre_refl m' en'
      · exact r.elim
    · exact r.elim
  · exact r.elim
def rSetAll : TSet := fun o i v H Q => rSetL o i v H Q ∨ ∃ a H4, o = .ref a ∧ DPut H a i v H4 ∧ Q H4
theorem set_all (hu : X.A.units + 1 < cLine) : PSet X rSetAll := by
  intro pins s σ H o i v ov iv u Q I ro ri rv h
  rcases h with h | ⟨a, H4, rfl, hp, hq⟩
  · exact set_list pins s σ H o i v ov iv u Q I ro ri rv h
  · obtain rfl : ov = Value.ref a := ro
    exact d_setItem hu I hp ri rv fun s' I' => ⟨H4, I', hq⟩
theorem set_of {v k : V} {dv dk d d' : D} {a : Addr} {Q : Hp → Prop} (m : MemOk K F Ad M H) (xv : Den K F Ad v dv) (xk : Den K F Ad k dk) (r : Root K F Ad H a d) (hu : stSub dk dv d = some d') (hq : ∀ o', Root K F Ad (upd H a o') a d' → Q (upd H a o')) : rSetAll (.ref a) k v H Q := by
  unfold stSub at hu
  cases r with
  | lst h r =>
    dsimp only at hu
    split at hu
    · rename_i i
      split at hu
      · rename_i oo j hj
        cases hu
        cases xk
        exact .inl ⟨a, _, i, j, rfl, rfl, h, by rw [r.length]; exact hj, hq _ (.lst upd_same (r.set j xv))⟩
      · cases hu
    · cases hu
  | dK h r =>
    dsimp only at hu
    split at hu
    · rename_i oo kk hk
      split at hu
      · rename_i hl
        cases hu
        exact .inr ⟨a, _, rfl, .inl ⟨_, kk, h, keyD_v xk hk, by rw [r.length]; exact hl, rfl⟩, hq _ (.dK upd_same (r.put xv))⟩
      · cases hu
    · cases hu
  | dT h r =>
    dsimp only at hu
    split at hu
    · rename_i ks
      split at hu
      · rename_i oo kk hk
        split at hu
        · rename_i hl
          cases hu
          cases xk with
          | tup h2 r2 =>
            have h2 := h2.key r2 hk
            rw [keysD_v r2 hk] at h2
            exact .inr ⟨a, _, rfl, .inr ⟨_, kk, _, h, rfl, m.sub _ _ h2, by rw [r.length]; exact hl, rfl⟩, hq _ (.dT upd_same (r.put xv))⟩
        · cases hu
      · cases hu
    · cases hu
  | ins h r => exact nomatch hu
def has (i : Nat) (env : EnvM) : Bool := match env[i]? with
  | some (.shr _) => true
  | some (.own _) => true
  | some (.slf _) => true
  | _ => false
theorem EnvOk.has (en : EnvOk K N0 F Ad H σ env) (h : has i env = true) : ∃ v, σ[i]? = some (some v) := by
  unfold MP.has at h
  split at h
  · rename_i d hd; obtain ⟨v, h1, _⟩ := en.shr i d hd; exact ⟨v, h1⟩
  · rename_i d hd; obtain ⟨v, h1, _⟩ := en.own i d hd; exact ⟨_, h1⟩
  · rename_i d hd; obtain ⟨_, h1, _⟩ := en.slf i d hd; exact ⟨_, h1⟩
  · cases h
def bSub (i : Nat) (fk fv : EF) : SF := fun env M => (fv env M).bindS env fun dv M1 => if has i env = true then (fk env M1).bindS env fun dk M2 => store i (stSub dk dv) env M2 else .stuck
theorem ss_sub {x : Str} {k value : Expr} {pos' pos2 : Pos} (hu : X.A.units + 1 < cLine) (hN : X.N[i]? = some x) (hv : Vis X.env.scope x) (hk : SE X W k fk) (he : SE X W value fv)
    (ha : ∀ v, assign (.Subscript (.Name x pos2) k pos') X.env v = (do
      let ov ← holding [v] (eval (.Name x pos2) X.env)
      let iv ← holding [v, ov] (eval k X.env)
      standAt pos'
      holding [v, ov, iv] (setItem ov iv v)
      release [v, ov, iv] []) := by intro _; rfl)
    (hs : swapsWithSole [.Subscript (.Name x pos2) k pos'] value pos.line X.env = pure false := by rfl) (hw : swappedStores [.Subscript (.Name x pos2) k pos'] value X.env = pure none := by rfl)
    (h1 : (assignEach [.Subscript (.Name x pos2) k pos'] X.env).map (·.2) = [assign (.Subscript (.Name x pos2) k pos') X.env] := by rfl)
    (hd : (x == ("__debug__" : Str)) = false := by decide) (hcd : (x == ("__classdict__" : Str)) = false := by decide) :
    SS X W DR (.Assign [.Subscript (.Name x pos2) k pos'] value pos) (bSub i fk fv) :=
  PS.imp (ps_asg he (pg_sub (pe_var hN hv hd hcd) hk (set_all hu) ha) hs hw h1) fun D σ H ⟨N0, F, Ad, M, env, ge0, m, en, r⟩ =>
    tE_of ge0 m en r fun dv M1 v F1 Ad1 H1 g1 ge m1 en1 x1 r1 => by
      split at r1
      · rename_i hh
        obtain ⟨v0, hv0⟩ := en1.has hh
        refine ⟨v0, hv0, tE_of ge m1 en1 r1 fun dk M2 vk F2 Ad2 H2 g2 ge2 m2 en2 x2 r2 => ?_⟩
        obtain ⟨a, d, d', c1, c2, c3, c4, c5⟩ := store_ok ge2 m2 en2 r2
        rw [hv0] at c1; cases c1
        exact set_of m2 (x1.mono g2.fle g2.pre) x2 c4 c3 c5
      · exact r1.elim
def isLst : Option D → Bool
  | some (.lst _) => true
  | _ => false
def bApp (i : Nat) (fv : EF) : SF := fun env M => if isLst (cont i env M) = true then (fv env M).bindS env fun dv M1 => store i (stApp dv) env M1 else .stuck
theorem cont_ok (m : MemOk K F Ad M H) (en : EnvOk K N0 F Ad H σ env) {d : D} (h : cont i env M = some d) : ∃ a, σ[i]? = some (some (.ref a)) ∧ Root K F Ad H a d := by
  unfold cont at h
  split at h
  · rename_i d' hd; cases h; obtain ⟨a, h1, _, _, _, h2⟩ := en.own i _ hd; exact ⟨a, h1, h2⟩
  · rename_i d' hd; cases h; obtain ⟨_, h1, _, _, _, h2, _⟩ := en.slf i _ hd; exact ⟨_, h1, h2⟩
  · rename_i n hd
    obtain ⟨v, h1, h2⟩ := en.shr i _ hd
    cases h2 with
    | @cel a _ ha => exact ⟨a, h1, (m.cel n a d ha h).2⟩
  · cases h
theorem ss_app {x : Str} {value : Expr} {apos pos2 cpos : Pos} (hN : X.N[i]? = some x) (hv : Vis X.env.scope x) (he : SE X W value fv)
    (hs0 : starEach [value] X.env = [(false, eval value X.env)] := by rfl) (hbase : attributeBase (.Name x pos2) "append" X.env (eval (.Name x pos2) X.env) = eval (.Name x pos2) X.env := by rfl)
    (hfew : ((backTo cpos (starEach [value] X.env)).all (fun x => !x.1) && (backToKw cpos (keywordEach [] X.env)).all (fun x => x.1.isSome)
      && decide (([value] : List Expr).length + ([] : List Keyword).length + (if ([] : List Keyword).isEmpty then 0 else 1) < 30)) = true := by rfl)
    (hline : (apos.endLine == cpos.line) = true := by rfl)
    (hd : (x == ("__debug__" : Str)) = false := by decide) (hcd : (x == ("__classdict__" : Str)) = false := by decide) (hsw : swapsWith (.Call (.Attribute (.Name x pos2) "append" apos) [value] [] cpos) none pos.line X.env = pure false := by rfl) :
    SS X W DR (.Expr (.Call (.Attribute (.Name x pos2) "append" apos) [value] [] cpos) pos) (bApp i fv) :=
  PS.imp (ps_expr (pe_bm (name := "append") PySem.F.plainAttrs_list PySem.F.slot_list_append PySem.F.type_list_append mt_append (pe_var hN hv hd hcd) (sl_one he hs0) hbase hfew hline hs0 (by rfl)) hsw) fun D σ H ⟨N0, F, Ad, M, env, ge0, m, en, r⟩ => by
    unfold bApp at r
    split at r
    · rename_i hl
      unfold isLst at hl
      split at hl
      · rename_i xs hx
        obtain ⟨a, ha, ra⟩ := cont_ok m en hx
        refine ⟨.ref a, ha, ?_, ?_⟩
        · cases ra with
          | lst h _ => exact .inl ⟨rfl, _, SqL.of h⟩
        · refine tE_of ge0 m en r fun dv M1 v F1 Ad1 H1 g1 ge m1 en1 x1 r1 => ?_
          obtain ⟨a', d, d', c1, c2, c3, c4, c5⟩ := store_ok ge m1 en1 r1
          rw [ha] at c1; cases c1
          unfold stApp at c3
          split at c3
          · split at c3
            · rename_i hz
              cases c3
              cases c4 with
              | lst h r => exact ⟨a, _, v, rfl, rfl, h, by rw [r.length]; exact hz, c5 _ (.lst upd_same (r.append (.cons x1 .nil)))⟩
            · cases c3
          · cases c3
      · cases hl
    · exact r.elim
def bFld (i : Nat) (c f : Str) (fv : EF) : SF := fun env M => (fv env M).bindS env fun dv M1 => store i (stFld c f dv) env M1
theorem ss_fld {x c g : Str} {value : Expr} {pos' pos2 : Pos} (hN : X.N[i]? = some x) (hv : Vis X.env.scope x) (he : SE X W value fv) (hc : Cls X.K (He.ga X.K c)) (hn : NoAttr X.K (He.ga X.K c) g)
    (hs : swapsWith value (some (.Attribute (.Name x pos2) g pos')) pos.line X.env = pure false := by rfl) (hd : (x == ("__debug__" : Str)) = false := by decide) (hcd : (x == ("__classdict__" : Str)) = false := by decide) :
    SS X W DR (.Assign [.Attribute (.Name x pos2) g pos'] value pos) (bFld i c g fv) :=
  PS.imp (ps_fld (pe_var hN hv hd hcd) he hs) fun D σ H ⟨N0, F, Ad, M, env, ge0, m, en, r⟩ =>
    tE_of ge0 m en r fun dv M1 v F1 Ad1 H1 g1 ge m1 en1 x1 r1 => by
      obtain ⟨a, d, d', c1, c2, c3, c4, c5⟩ := store_ok ge m1 en1 r1
      refine ⟨.ref a, c1, ?_⟩
      unfold stFld at c3
      split at c3
      · split at c3
        · rename_i hz
          cases c3
          cases c4 with
          | ins h rr =>
            obtain ⟨rfl, hl⟩ := hz
            exact ⟨a, _, _, _, rfl, h, hc, hn, by rw [rr.length]; exact hl, c5 _ (.ins upd_same (rr.put x1))⟩
        · cases c3
      · cases c3
def forL (gd : D → EnvM → Option EnvM) (b : SF) : List D → SF
  | [], env, M => .next env M
  | d :: ds, env, M => match gd d env with
    | none => .stuck
    | some env1 => match b env1 M with
      | .next env2 M2 => forL gd b ds env2 M2
      | .cont env2 M2 => forL gd b ds env2 M2
      | .brk env2 M2 => .next env2 M2
      | r => r
def bFor (l : LF) (gd : D → EnvM → Option EnvM) (b : SF) : SF := fun env M => match l env M with
  | .ok ds M1 => forL gd b ds env M1
  | .exc x M1 => .exc x env M1
  | .stuck => .stuck
theorem ss_for {gd : D → EnvM → Option EnvM} {g : TG} {js : List Nat} (hp : PassesOwn (model X.prog X.w) X.A X.env X.xe) (hc : X.calm = true) (hi : SI X W true tg iter l) (tgo : TgOk X.K js gd g) (hg : PG X tg g) (hb : SSs X W DR body b) (hs : ∀ x, foldedSetIterable iter X.env x = pure x := by intro _; rfl) :
    SS X W DR (.For tg iter body [] pos) (bFor l gd b) := PS.imp (ps_for hp hc hi hg hb hs) fun E σ H ⟨N0, F, Ad, M, env, ge0, m, en, r⟩ => by
  refine ⟨N0, F, Ad, M, env, m, en, ?_⟩
  unfold bFor at r
  cases ql : l env M with
  | exc x M1 => rw [ql] at r; exact fun cls dx F' Ad' H' g' m' z => r cls dx σ F' Ad' H' (ge0.trans g') g'.fle g'.pre m' (en.gr g') z
  | stuck => rw [ql] at r; exact r
  | ok ds M1 =>
    rw [ql] at r
    intro J ks F1 Ad1 H1 g1 m1 it k1 k2 kz
    have kz := kz rfl
    subst kz
    refine ⟨fun i mm σ2 H2 => mm = ds.length - i ∧ i ≤ ds.length ∧ ∃ F2 Ad2 M2 env2, GrE N0 F2 Ad2 H2 ∧ FLe F1 F2 ∧ Pre Ad1 Ad2 ∧ MemOk X.K F2 Ad2 M2 H2 ∧ EnvOk X.K N0 F2 Ad2 H2 σ2 env2 ∧ RPS X.K W DR E N0 F2 Ad2 (forL gd b (ds.drop i) env2 M2),
      ⟨_, rfl, Nat.zero_le _, F1, Ad1, M1, env, ge0.trans g1, FLe.refl _, pre_refl, m1, en.gr g1, by simpa using RPS.gr r g1.fle g1.pre⟩, ?_⟩
    rintro i mm σ2 H2 ⟨rfl, hi, F2, Ad2, M2, env2, ge2, l2, p2, m2, en2, r2⟩
    by_cases hlt : i < ds.length
    · right
      refine ⟨it.go i F2 Ad2 M2 H2 hlt l2 p2 m2 (fun _ z => nomatch z), fun σ' H' => i + 1 ≤ ds.length ∧ ∃ F3 Ad3 M3 env3, GrE N0 F3 Ad3 H' ∧ FLe F1 F3 ∧ Pre Ad1 Ad3 ∧ MemOk X.K F3 Ad3 M3 H' ∧ EnvOk X.K N0 F3 Ad3 H' σ' env3 ∧ RPS X.K W DR E N0 F3 Ad3 (forL gd b (ds.drop (i + 1)) env3 M3),
        fun σ' H' ⟨h1, h2⟩ => ⟨ds.length - (i + 1), by omega, rfl, h1, h2⟩, fun x H3 hy => ?_⟩
      obtain ⟨d, F3, hd, g3, m3, x3⟩ := it.yld i F2 Ad2 M2 H2 x H3 hlt l2 p2 m2 (fun _ z => nomatch z) hy
      have hdrop : ds.drop i = d :: ds.drop (i + 1) := by
        rw [List.drop_eq_getElem_cons hlt]
        rw [List.getElem?_eq_getElem hlt] at hd
        cases hd; rfl
      rw [hdrop] at r2
      unfold forL at r2
      cases hgd : gd d env2 with
      | none => rw [hgd] at r2; exact r2.elim
      | some env3 =>
        rw [hgd] at r2
        dsimp only at r2
        refine tgo.ok N0 F3 Ad2 M2 H3 σ2 env2 x d env3 _ m3 (en2.gr g3) x3 hgd fun σ' en' _ => ?_
        refine ⟨N0, F3, Ad2, M2, env3, ge2.trans g3, m3, en', ?_⟩
        have r3 := RPS.gr r2 g3.fle (pre_refl (Ad := Ad2))
        have stp : ∀ env4 M4, RPS X.K W DR E N0 F3 Ad2 (forL gd b (ds.drop (i + 1)) env4 M4) → ∀ σ F' Ad' H', GrE N0 F' Ad' H' → FLe F3 F' → Pre Ad2 Ad' → MemOk X.K F' Ad' M4 H' → EnvOk X.K N0 F' Ad' H' σ env4 →
            (i + 1 ≤ ds.length ∧ ∃ F3 Ad3 M3 env3, GrE N0 F3 Ad3 H' ∧ FLe F1 F3 ∧ Pre Ad1 Ad3 ∧ MemOk X.K F3 Ad3 M3 H' ∧ EnvOk X.K N0 F3 Ad3 H' σ env3 ∧ RPS X.K W DR E N0 F3 Ad3 (forL gd b (ds.drop (i + 1)) env3 M3)) :=
          fun env4 M4 r4 σ F' Ad' H' g' l' p' m' en' => ⟨hlt, F', Ad', M4, env4, g', (l2.trans g3.fle).trans l', p2.trans p', m', en', RPS.gr r4 l' p'⟩
        cases hb : b env3 M2 with
        | next env4 M4 => rw [hb] at r3; exact stp env4 M4 r3
        | cont env4 M4 => rw [hb] at r3; exact stp env4 M4 r3
        | brk env4 M4 => rw [hb] at r3; exact r3
        | ret d M4 => rw [hb] at r3; exact r3
        | exc z env4 M4 => rw [hb] at r3; exact r3
        | stuck => rw [hb] at r3; exact r3
    · left
      have hi2 : i = ds.length := by omega
      subst hi2
      refine ⟨it.stop F2 Ad2 M2 H2 l2 p2 m2 (fun _ z => nomatch z), ?_⟩
      rw [List.drop_length] at r2
      exact r2 σ2 F2 Ad2 H2 ge2 (FLe.refl _) pre_refl m2 en2
def bShare (i : Nat) : SF := fun env M => match env[i]? with
  | some (.own d) => .next (env.set i (.shr d)) M
  | _ => .stuck
theorem ss_share {K : PySem.W.Frag} (D : Ends) (σ : St) (H : Hp) (h : tS K W DR (bSeq (bShare i) b) D σ H) : tS K W DR b D σ H := by
  obtain ⟨N0, F, Ad, M, env, g, m, en, r⟩ := h
  unfold bSeq bShare at r
  cases hd : env[i]? with
  | none => rw [hd] at r; exact r.elim
  | some bb =>
    cases bb with
    | own d =>
      rw [hd] at r
      dsimp only at r
      obtain ⟨a, c1, c2, c3, c4, c5⟩ := en.own i d hd
      have hl : i < env.length := (List.getElem?_eq_some_iff.mp hd).1
      obtain ⟨F', g', m', dn, l', off⟩ := freeze g m (v := .ref a) ⟨a, rfl, c2, c3, c4, c5⟩
      refine ⟨N0, F', Ad, M, _, g', m', ⟨by simp [en.len], fun j e hj => ?_, fun j e hj => ?_, fun j k e1 e2 b h1 h2 h3 h4 => ?_, fun j e hj => ?_, en.parM l' (fun x dd h1 h2 h3 h4 h5 => ⟨off x h1 (fun z => h5 (by cases z; exact .inl ⟨i, d, hd, c1⟩)), h2, h4.mono l' pre_refl rfl, fun z => h5 (z.setE ⟨.inl (by intro _ z; cases z), .inl (by intro _ z; cases z)⟩)⟩) (par_setE (by intro _ z; cases z)), fun j hj => ?_⟩, RPS.gr r l' pre_refl⟩
      · by_cases e1 : i = j
        · subst e1; rw [List.getElem?_set_self hl] at hj; cases hj; exact ⟨_, c1, dn⟩
        · rw [List.getElem?_set_ne e1] at hj
          obtain ⟨v, z1, z2⟩ := en.shr j e hj
          exact ⟨v, z1, z2.mono l' pre_refl⟩
      · have e1 : i ≠ j := fun e1 => by subst e1; rw [List.getElem?_set_self hl] at hj; cases hj
        rw [List.getElem?_set_ne e1] at hj
        obtain ⟨b, b1, b2, b3, b4, b5⟩ := en.own j e hj
        have ne : b ≠ a := fun z => by subst z; exact e1 (en.dis i j d e b hd hj c1 b1)
        exact ⟨b, b1, off b b2 (fun z => ne (by cases z; rfl)), b3, b4, b5.mono l' pre_refl rfl⟩
      · have e1' : i ≠ j := fun e1 => by subst e1; rw [List.getElem?_set_self hl] at h1; cases h1
        have e2' : i ≠ k := fun e1 => by subst e1; rw [List.getElem?_set_self hl] at h2; cases h2
        rw [List.getElem?_set_ne e1'] at h1
        rw [List.getElem?_set_ne e2'] at h2
        exact en.dis j k _ _ b h1 h2 h3 h4
      · have e1 : i ≠ j := fun e1 => by subst e1; rw [List.getElem?_set_self hl] at hj; cases hj
        rw [List.getElem?_set_ne e1] at hj
        obtain ⟨z0, z1, z2, z3, z4, z5, z6⟩ := en.slf j e hj
        have ne : N0.me ≠ a := fun z => z6 i d hd (by rw [c1, z])
        refine ⟨z0, z1, off _ z2 (fun z => ne (by cases z; rfl)), z3, z4, z5.mono l' pre_refl rfl, fun k d2 hk => ?_⟩
        by_cases e2 : i = k
        · subst e2; rw [List.getElem?_set_self hl] at hk; cases hk
        · rw [List.getElem?_set_ne e2] at hk; exact z6 k d2 hk
      · have e1 : i ≠ j := fun e1 => by subst e1; rw [List.getElem?_set_self hl] at hj; cases hj
        rw [List.getElem?_set_ne e1] at hj; exact ⟨(en.raw j hj).1, (en.raw j hj).2.1, g'⟩
    | _ => rw [hd] at r; exact r.elim
theorem sss_share (h : SSs X W DR rest b) : SSs X W DR rest (bSeq (bShare i) b) := PSs.imp h fun D σ H x => ss_share D σ H x
end
end MP
set_option maxRecDepth 100000
set_option maxHeartbeats 1000000
namespace MP
open PySem PySem.Spec PyProof.Rows L2
variable [TabsP] [ThkP]
def D.tyN : D → Option String
  | .non => some "NoneType"
  | .bl _ => some "bool"
  | .int _ => some "int"
  | .str _ => some "str"
  | .tup _ => some "tuple"
  | .ktp _ => some "tuple"
  | .lst _ => some "list"
  | .scr _ => some "list"
  | .dK _ => some "dict"
  | .dT _ => some "dict"
  | _ => none
def tyNs : List String := ["NoneType", "bool", "int", "str", "tuple", "list", "dict"]
def subN (n T : String) : Bool := n == T || (n == "bool" && T == "int")
abbrev TyT (T : String) : Prop := ∀ n ∈ tyNs, kitB n T = some (subN n T)
theorem tyT_int : TyT "int" := by decide +kernel
theorem tyT_bool : TyT "bool" := by decide +kernel
theorem tyT_tuple : TyT "tuple" := by decide +kernel
theorem tyT_str : TyT "str" := by decide +kernel
theorem D.tyN_mem {d : D} {n : String} (h : d.tyN = some n) : n ∈ tyNs := by
  cases d <;> simp [D.tyN] at h <;> subst h <;> decide
section
variable {X : Cx} {W : WX} {K : PySem.W.Frag} {E : XK} {DR : DRel} {N0 : Ent} {F H : Hp} {Ad : List Addr} {M : List D} {env : EnvM} {σ : St} {Q : VK} {x : V} {e c : Expr} {f : EF} {pos p pc : Pos}
theorem sqT_ty {a : Addr} {xs : List V} (h : SqT K H a xs) : TyX K H (.ref a) (.type "tuple") := by
  rcases h with (h | ⟨o, h⟩) | ⟨o, its, n, hk, hc, _⟩
  · exact .base (.tup h)
  · exact .fTuple h
  · exact .kTuple hk hc
theorem sqL_ty {a : Addr} {xs : List V} (h : SqL K H a xs) : TyX K H (.ref a) (.type "list") := by
  rcases h with (h | ⟨o, h⟩) | ⟨o, its, n, hk, hc, _⟩
  · exact .base (.lst h)
  · exact .base (.frz h)
  · exact .kList hk hc
theorem DV.ty (m : MemOk K F Ad M H) {d : D} {n : String} (h : DV K F Ad H x d) (e : d.tyN = some n) (hd : ∀ k, d ≠ .dT k) : TyX K H x (.type n) := by
  cases d with
  | non => cases e; rw [h.non]; exact .base .non
  | bl b => cases e; rw [h.bl]; exact .base (.bl _)
  | int b => cases e; rw [h.int]; exact .base (.int _)
  | str b => cases e; rw [h.str]; exact .base (.str _)
  | tup b => cases e; obtain ⟨a, vs, rfl, h1, _⟩ := h.tup m; exact sqT_ty h1
  | ktp b => cases e; obtain ⟨a, vs, rfl, h1, _⟩ := h.ktp m; exact sqT_ty h1
  | lst b => cases e; obtain ⟨a, vs, rfl, h1, _⟩ := h.lst m; exact .base (.lst h1)
  | scr b => cases e; obtain ⟨a, rfl, h1⟩ := h.scr m; exact sqL_ty h1
  | dK b =>
    cases e
    obtain ⟨a, vs, rfl, h1, _⟩ := h.dK m
    rcases h1 with h1 | ⟨o, h1⟩
    · exact .base (.dK h1)
    · exact .fDict h1
  | dT b => exact absurd rfl (hd b)
  | ins c fs => cases e
  | cel n => cases e
  | cls n => cases e
structure ClsT (K : PySem.W.Frag) (c : Str) : Prop where
  cl : Cls K (He.ga K c)
  ha : PySem.W.findIn K (.ref (He.ga K c)) "__class__" = some (some (.builtin "object.__class__"))
  hn : PySem.W.specialIn K (.builtin "object.__class__") "__get__" = some (some (.builtin "getset_descriptor.__get__"))
  htk : PySem.W.takesIn K (.builtin "object.__class__") = some true
  hm : PySem.W.mroIn K (He.ga K c) (.type "object") = some true
def IsK (K : PySem.W.Frag) (u : Value) (k : D → Option Bool) : Prop := ∀ (F : Hp) (Ad : List Addr) (M : List D) (H : Hp) (x : V) (d : D) (b : Bool), MemOk K F Ad M H → DV K F Ad H x d → k d = some b → ∃ t, TyX K H x t ∧ PySem.W.kitOne K t u = some b
def isT (T : String) (cs : List Str) (d : D) : Option Bool := match d with
  | .dT _ => none
  | .ins c _ => if cs.contains c = true then some false else none
  | d => d.tyN.map fun n => subN n T
theorem isK_T {T : String} {cs : List Str} (hT : TyT T) (hc : ∀ c ∈ cs, ClsT K c ∧ PySem.W.kitOne K (.ref (He.ga K c)) (.type T) = some false) : IsK K (.type T) (isT T cs) := by
  intro F Ad M H x d b m h e
  have gen : ∀ d' : D, (∀ k, d' ≠ .dT k) → d'.tyN.map (fun n => subN n T) = some b → DV K F Ad H x d' → ∃ t, TyX K H x t ∧ PySem.W.kitOne K t (.type T) = some b := fun d' hn e' h' => by
    rw [Option.map_eq_some_iff] at e'
    obtain ⟨n, e1, e2⟩ := e'
    exact ⟨_, h'.ty m e1 hn, by rw [← e2]; exact kit_ty (hT n (D.tyN_mem e1))⟩
  cases d with
  | dT k => cases e
  | ins c fs =>
    dsimp only [isT] at e
    split at e
    · rename_i hcs
      cases e
      obtain ⟨a, dx, vs, rfl, h1, _⟩ := h.ins m
      obtain ⟨z, hk⟩ := hc c (by simpa using hcs)
      exact ⟨_, .base (.ins h1 z.cl z.ha z.hn z.htk z.hm), hk⟩
    · cases e
  | non => exact gen (.non) (fun _ z => nomatch z) e h
  | bl y => exact gen (.bl y) (fun _ z => nomatch z) e h
  | int y => exact gen (.int y) (fun _ z => nomatch z) e h
  | str y => exact gen (.str y) (fun _ z => nomatch z) e h
  | tup y => exact gen (.tup y) (fun _ z => nomatch z) e h
  | ktp y => exact gen (.ktp y) (fun _ z => nomatch z) e h
  | lst y => exact gen (.lst y) (fun _ z => nomatch z) e h
  | scr y => exact gen (.scr y) (fun _ z => nomatch z) e h
  | dK y => exact gen (.dK y) (fun _ z => nomatch z) e h
  | cel _ => cases e
  | cls _ => cases e
def oIsi (k : D → Option Bool) (d : D) (M : List D) : R := match k (view M d) with
  | some b => .ok (.bl b) M
  | none => .stuck
theorem se_isi {k : D → Option Bool} {cv : V} {u : Value} (hk : IsK X.K u k) (he : SB X W e f) (hc : PE X c (fun _ H Q => Q cv H)) (hcv : ClsV cv u) (hg : Gl X "isinstance") (hm : X.mg "isinstance" = none)
    (hs1 : starEach [e, c] X.env = (false, eval e X.env) :: starEach [c] X.env := by rfl) (hs2 : starEach [c] X.env = [(false, eval c X.env)] := by rfl) (hpl : (backTo pos (starEach [c] X.env)).any (·.1) = false := by rfl) :
    SE X W (.Call (.Name "isinstance" p) [e, c] [] pos) (e1 (oIsi k) f) := by
  refine ⟨fun pins s σ H Q I ⟨N0, F, Ad, M, env, m, en, r⟩ => ?_⟩
  have ha : PA X [e, c] (fun σ H Q => tG X.K W (DB X.K) f σ H fun x H1 => Q [x, cv] H1) := pa_cons he (pa_cons hc pa_nil hs2) hs1
  refine wpAny_Call_Name_kw (ld_blt I hg hm (show bootBuiltins "isinstance" = some (.builtin "isinstance") by decide +kernel) ?_ (by decide) (by decide))
  refine PyProof.Rows.callWith_builtin1 (thn (ha.run pos pins s σ H (fun vs H1 => ∃ F1 Ad1 M1 d v, vs = [v, cv] ∧ MemOk X.K F1 Ad1 M1 H1 ∧ DB X.K H1 F1 Ad1 H1 v d ∧ RP X.K (fun c d H => W c d σ H) (DE X.K) F1 Ad1 H1 Q (oIsi k d M1)) I
    (tG_seq DE.ok m en r fun d M1 v F1 Ad1 H1 g1 m1 en1 x1 r1 => ⟨F1, Ad1, M1, d, v, rfl, m1, x1, r1⟩)) fun us s1 ⟨vs, H1, I1, rv, F1, Ad1, M1, d, v, ev, m1, x1, r1⟩ => ?_) hs1 hpl
  unfold oIsi at r1
  split at r1
  · rename_i b hb
    obtain ⟨t, ht, hkit⟩ := hk F1 Ad1 M1 H1 v _ b m1 (DB.view m1 x1) hb
    exact call_isi pins s1 σ H1 vs us Q I1 rv ⟨v, cv, t, u, b, ev, hcv, ht, hkit, RP.here r1 m1 .bl⟩
  · exact r1.elim
theorem pe_tyN {n : String} {y : Str} (hg : Gl X y) (hm : X.mg y = none) (hv : bootBuiltins y = some (.type n)) (hn : y ≠ "__name__" := by decide) (hd : (y == ("__debug__" : Str)) = false := by decide) : PE X (.Name y pos) (fun _ H Q => Q (.ty n) H) :=
  pe_bltn (v := .ty n) hg hm hv (show RelV (.ty n) (.type n) from rfl) hn hd
end
def env0 (n : Nat) (ds : List D) : EnvM := ds.map B.shr ++ List.replicate (n - ds.length) B.no
def endE (r : RS) : R := match r with
  | .ret d M => .ok d M
  | .next _ M => .ok .non M
  | .exc x _ M => .exc x M
  | _ => .stuck
def endI (r : RS) : R := match r with
  | .next env M => (match (env[0]? : Option B) with | some (B.slf d) => .ok d M | _ => .stuck)
  | .exc x _ M => .exc x M
  | _ => .stuck
section
variable {P : Program} {w : World} {K : PySem.W.Frag} {mg : Str → Option Value} {base : Heap} {x qual : Str} {params : Arguments} {body : List Stmt} {scope : Scope} {dvs : List V} {kws : List (Str × V)} {f : Addr} {fd : FuncData} {N ps : List Str} {k : Nat} {F H : Hp} {Ad : List Addr} {M : List D}
abbrev wxE (E : XK) : WX := fun c d _ H => E c d H
theorem env0_ok {vs : List V} {ds : List D} (x : DenL K F Ad vs ds) (me : Addr) : EnvOk K ⟨H, F, Ad, me⟩ F Ad H (L2.start N vs) (env0 N.length ds) := by
  have hl := x.length
  have hs : ∀ {i : Nat} {b : B}, (env0 N.length ds)[i]? = some b → b ≠ .no → ∃ d, ds[i]? = some d ∧ b = .shr d := fun {i b} h hb => by
    unfold env0 at h
    by_cases hi : i < ds.length
    · rw [List.getElem?_append_left (by simpa using hi), List.getElem?_map, List.getElem?_eq_getElem hi] at h
      exact ⟨_, List.getElem?_eq_getElem hi, by simpa using h.symm⟩
    · rw [List.getElem?_append_right (by simpa using hi), List.getElem?_replicate] at h
      split at h
      · cases h; exact absurd rfl hb
      · cases h
  refine ⟨by unfold env0 L2.start; simp [hl], fun i d h => ?_, fun i d h => ?_, fun i j d e a h _ _ _ => ?_, fun i d h => ?_, fun i d h => ?_, fun i h => ?_⟩
  · obtain ⟨d', h1, h2⟩ := hs h (fun z => nomatch z)
    cases h2
    obtain ⟨v, h3, h4⟩ := x.get h1
    refine ⟨v, ?_, h4⟩
    unfold L2.start
    rw [List.getElem?_append_left (by simpa using (List.getElem?_eq_some_iff.mp h3).1), List.getElem?_map, h3]; rfl
  · obtain ⟨d', h1, h2⟩ := hs h (fun z => nomatch z); cases h2
  · obtain ⟨d', h1, h2⟩ := hs h (fun z => nomatch z); cases h2
  · obtain ⟨d', h1, h2⟩ := hs h (fun z => nomatch z); cases h2
  · obtain ⟨d', h1, h2⟩ := hs h (fun z => nomatch z); cases h2
  · obtain ⟨d', h1, h2⟩ := hs h (fun z => nomatch z); cases h2
theorem fnok_of {DR : DRel} {fin : RS → R} {n : Nat} {b : SF} (Fd : FunD K x qual params body scope dvs kws f fd) (S : FnScope N ps scope) (hn : ps.length = n)
    (hfin : ∀ (E : XK) (Q : VK) (F H : Hp) (Ad : List Addr) (r : RS), RP K E DR F Ad H Q (fin r) → RPS K (wxE E) DR { nx := fun _ H' => Q .non H', rt := Q } ⟨H, F, Ad, 0⟩ F Ad r)
    (hbody : ∀ (cdv : Value) (A : Around) (outer : List Env) (s : Shared) (H : Hp) (E : XK), Room k (A.deeper (envOfC qual scope s.heap.objs.size f cdv)) → SSs (cxOf (L2.CX P w) P w K mg base N qual scope f cdv A outer s H E) (wxE E) DR body b) :
    FnOk P w K mg base (L2.CX P w) (k + 1) f fd ps (spD K DR n (fun ds M => fin (b (env0 N.length ds) M))) := by
  refine MP.fn_of Fd S (fun vs H Q E h => h.1.trans hn.symm) fun cdv A outer s H vs Q E hr hsp => ⟨_, hbody cdv A outer s H E hr, ?_⟩
  obtain ⟨_, F, Ad, M, ds, m, dx, r⟩ := hsp
  exact ⟨⟨H, F, Ad, 0⟩, F, Ad, M, _, Gr.refl, m, env0_ok dx 0, hfin E Q F H Ad _ r⟩
theorem fnk_of {DR : DRel} {fin : RS → R} {n : Nat} {dd : List D} {us : List Value} {b : SF} (Fd : FunD K x qual params body scope dvs kws f fd) (S : FnScope N ps scope) (hn : ps.length = n) (hb : Binds K fd ps us) (hv : Vals dvs us) (hdd : ∀ F Ad, DenL K F Ad dvs dd)
    (hfin : ∀ (E : XK) (Q : VK) (F H : Hp) (Ad : List Addr) (r : RS), RP K E DR F Ad H Q (fin r) → RPS K (wxE E) DR { nx := fun _ H' => Q .non H', rt := Q } ⟨H, F, Ad, 0⟩ F Ad r)
    (hbody : ∀ (cdv : Value) (A : Around) (outer : List Env) (s : Shared) (H : Hp) (E : XK), Room k (A.deeper (envOfC qual scope s.heap.objs.size f cdv)) → SSs (cxOf (L2.CX P w) P w K mg base N qual scope f cdv A outer s H E) (wxE E) DR body b) :
    FnK P w K mg base DR (k + 1) n f dd (fun ds M => fin (b (env0 N.length ds) M)) := ⟨fd, ps, dvs, us, fnok_of Fd S hn hfin hbody, hb, hv, hdd, Fd.kp⟩
theorem finE (E : XK) (Q : VK) (F H : Hp) (Ad : List Addr) (r : RS) (h : RP K E (DE K) F Ad H Q (endE r)) : RPS K (wxE E) (DE K) { nx := fun _ H' => Q .non H', rt := Q } ⟨H, F, Ad, 0⟩ F Ad r := by
  cases r with
  | next env M => exact fun σ F' Ad' H' g l p m en => h .non F' Ad' H' g m .non
  | ret d M => exact fun v F' Ad' H' g m x => h v F' Ad' H' g m x
  | brk env M => exact h.elim
  | cont env M => exact h.elim
  | exc x env M => exact fun cls dx σ F' Ad' H' g l p m en z => h cls dx F' Ad' H' g m z
  | stuck => exact h
def env0I (n : Nat) (cn : Str) (ds : List D) : EnvM := B.slf (.ins cn []) :: (ds.map B.shr ++ List.replicate (n - (ds.length + 1)) B.no)
theorem fnoki_of {n : Nat} {cn : Str} {b : SF} (Fd : FunD K x qual params body scope dvs kws f fd) (S : FnScope N ps scope) (hn : ps.length = n + 1)
    (hbody : ∀ (cdv : Value) (A : Around) (outer : List Env) (s : Shared) (H : Hp) (E : XK), Room k (A.deeper (envOfC qual scope s.heap.objs.size f cdv)) → SSs (cxOf (L2.CX P w) P w K mg base N qual scope f cdv A outer s H E) (wxE E) (DE K) body b) :
    MP.FnOk P w K mg base (L2.CX P w) (k + 1) f fd ps (spI K cn n (fun ds M => endI (b (env0I N.length cn ds) M))) := by
  refine MP.fn_of Fd S (fun vs H Q E h => h.1.trans hn.symm) fun cdv A outer s H vs Q E hr hsp => ⟨_, hbody cdv A outer s H E hr, ?_⟩
  obtain ⟨hlen, xx, dx, rest, HH, F, Ad, M, ds, rfl, rfl, n1, n2, ne, m, dl, r⟩ := hsp
  have hl := dl.length
  have g1 : Gr F Ad HH F Ad (upd HH dx (.own xx)) := gr_own n2
  have n1' : upd HH dx (.own xx) xx = none := by rw [upd_ne (Ne.symm ne)]; exact n1
  have g2 := g1.trans (gr_own (o := .ins (He.ga K cn) dx []) n1')
  have m2 := mem_own (o := .ins (He.ga K cn) dx []) (mem_own (o := .own xx) m n2) n1'
  have hs : ∀ {i : Nat} {bb : B}, (env0I N.length cn ds)[i]? = some bb → bb ≠ .no → (i = 0 ∧ bb = .slf (.ins cn [])) ∨ ∃ j d, i = j + 1 ∧ ds[j]? = some d ∧ bb = .shr d := fun {i bb} h hb => by
    unfold env0I at h
    cases i with
    | zero => simp at h; exact .inl ⟨rfl, h.symm⟩
    | succ i =>
      right
      simp only [List.getElem?_cons_succ] at h
      by_cases hi : i < ds.length
      · rw [List.getElem?_append_left (by simpa using hi), List.getElem?_map, List.getElem?_eq_getElem hi] at h
        exact ⟨i, _, rfl, List.getElem?_eq_getElem hi, by simpa using h.symm⟩
      · rw [List.getElem?_append_right (by simpa using hi), List.getElem?_replicate] at h
        split at h
        · cases h; exact absurd rfl hb
        · cases h
  refine ⟨⟨HH, F, Ad, xx⟩, F, Ad, M, env0I N.length cn ds, g2, m2, ⟨?_, fun i d h => ?_, fun i d h => ?_, fun i j d e a h _ _ _ => ?_, fun i d h => ?_, fun i d h => (by
    rcases hs h (fun z => nomatch z) with ⟨_, z⟩ | ⟨j, d', rfl, h1, h2⟩
    · cases z
    · cases h2), fun i h => ?_⟩, ?_⟩
  · unfold env0I L2.start; simp [hl]
  · rcases hs h (fun z => nomatch z) with ⟨_, z⟩ | ⟨j, d', rfl, h1, h2⟩
    · cases z
    · cases h2
      obtain ⟨v, h3, h4⟩ := dl.get h1
      refine ⟨v, ?_, h4⟩
      unfold L2.start
      simp only [List.map_cons, List.cons_append, List.getElem?_cons_succ]
      rw [List.getElem?_append_left (by simpa using (List.getElem?_eq_some_iff.mp h3).1), List.getElem?_map, h3]; rfl
  · rcases hs h (fun z => nomatch z) with ⟨_, z⟩ | ⟨j, d', rfl, h1, h2⟩
    · cases z
    · cases h2
  · rcases hs h (fun z => nomatch z) with ⟨_, z⟩ | ⟨j, d', rfl, h1, h2⟩
    · cases z
    · cases h2
  · rcases hs h (fun z => nomatch z) with ⟨rfl, z⟩ | ⟨j, d', rfl, h1, h2⟩
    · cases z
      refine ⟨rfl, rfl, m.none n1, m.notin n1, n1, .ins upd_same .nil, fun j e hj => ?_⟩
      rcases hs hj (fun z => nomatch z) with ⟨_, z⟩ | ⟨j', d', rfl, h1, h2⟩
      · cases z
      · cases h2
    · cases h2
  · rcases hs h (fun z => nomatch z) with ⟨_, z⟩ | ⟨j, d', rfl, h1, h2⟩
    · cases z
    · cases h2
  · show RPS K (wxE E) (DE K) _ _ F Ad (b (env0I N.length cn ds) M)
    cases hq : b (env0I N.length cn ds) M with
    | next env M' =>
      simp only [hq, endI] at r
      intro σ F' Ad' H' g l p m' en
      split at r
      · rename_i d hd
        obtain ⟨_, c1, c2, c3, c4, c5, _⟩ := en.slf 0 d hd
        exact r (.ref xx) F' Ad' H' g m' ⟨xx, rfl, c2, c3, c4, c5⟩ rfl
      · exact r.elim
    | ret d M' => simp only [hq, endI] at r; exact r.elim
    | brk env M' => simp only [hq, endI] at r; exact r.elim
    | cont env M' => simp only [hq, endI] at r; exact r.elim
    | exc z env M' => simp only [hq, endI] at r; exact fun cls dx2 σ F' Ad' H' g l p m' en zz => r cls dx2 F' Ad' H' g m' zz
    | stuck => simp only [hq, endI] at r; exact r.elim
theorem ink_of {n : Nat} {cn : Str} {dd : List D} {us : List Value} {b : SF} (Mm : Mk K (He.ga K cn) f) (Fd : FunD K x qual params body scope dvs kws f fd) (S : FnScope N ps scope) (hn : ps.length = n + 1) (hb : Binds K fd ps us) (hv : Vals dvs us) (hdd : ∀ F Ad, DenL K F Ad dvs dd)
    (hbody : ∀ (cdv : Value) (A : Around) (outer : List Env) (s : Shared) (H : Hp) (E : XK), Room k (A.deeper (envOfC qual scope s.heap.objs.size f cdv)) → SSs (cxOf (L2.CX P w) P w K mg base N qual scope f cdv A outer s H E) (wxE E) (DE K) body b) :
    InK P w K mg base (k + 1) n cn f dd (fun ds M => endI (b (env0I N.length cn ds) M)) := 
  ⟨Mm, fd, ps, dvs, us, fnoki_of Fd S hn hbody, hb, hv, hdd⟩
end
end MP
set_option maxRecDepth 100000
set_option maxHeartbeats 1000000
namespace MP
open PySem PySem.Spec PyProof.Rows L2
variable [TabsP] [ThkP]
structure XcC (K : PySem.W.Frag) (C fI : Addr) (f : Str) : Prop where
  over : ∃ (B newId initId : String) (bmB : List Value), ExcBaseFacts B newId initId bmB ∧ StoreFacts B bmB "object.__setattr__" "object" ∧ PySem.W.excInitIn K C bmB newId = true ∧ PySem.W.excOver K C bmB = true
  tk : PySem.W.takerIn K C f = some none
  hd : PySem.W.hasDictIn K C = true
  sa : PySem.W.findIn K (.ref C) "__setattr__" = some (some (.builtin "object.__setattr__"))
  iC : PySem.W.findIn K (.ref C) "__init__" = some (some (.ref fI))
  tI : PySem.W.typeIn K (.ref fI) = some (.type "function")
  kC : PySem.W.keepIn K (.ref C) = true
  exC : PySem.W.subIn K (.ref C) (.type "BaseException") = some true
  tyC : PySem.W.typeIn K (.ref C) = some (.type "type")
  xf : XfC K C
  no : PySem.W.findIn K (.ref C) f = some none
def exTail (n : String) : List Value := [.type n, .type "Exception", .type "BaseException", .type "object"]
def isSN {α : Type} : Option (Option α) → Bool
  | some none => true
  | _ => false
theorem isSN_ok {α : Type} {o : Option (Option α)} (h : isSN o = true) : o = some none := by
  unfold isSN at h
  split at h
  · rfl
  · cases h
def isTyp (n : String) : Option Value → Bool
  | some (.type m) => decide (m = n)
  | _ => false
theorem isTyp_ok {n : String} {o : Option Value} (h : isTyp n o = true) : o = some (.type n) := by
  unfold isTyp at h
  split at h
  · rw [of_decide_eq_true h]
  · cases h
def isAdr (a : Addr) : Option (Option Value) → Bool
  | some (some (.ref b)) => decide (b = a)
  | _ => false
theorem isAdr_ok {a : Addr} {o : Option (Option Value)} (h : isAdr a o = true) : o = some (some (.ref a)) := by
  unfold isAdr at h
  split at h
  · rw [of_decide_eq_true h]
  · cases h
def xcB (K : PySem.W.Frag) (C fI : Addr) (f : Str) : Bool :=
  ((PySem.W.excInitIn K C (exTail "ValueError") "ValueError.__new__" && PySem.W.excOver K C (exTail "ValueError")) || ((PySem.W.excInitIn K C (exTail "LookupError") "LookupError.__new__" && PySem.W.excOver K C (exTail "LookupError")) || (PySem.W.excInitIn K C (exTail "ArithmeticError") "ArithmeticError.__new__" && PySem.W.excOver K C (exTail "ArithmeticError")))) &&
  (isSN (PySem.W.takerIn K C f) && (PySem.W.hasDictIn K C && (He.eqO (PySem.W.findIn K (.ref C) "__setattr__") (some (some (.builtin "object.__setattr__"))) && (isAdr fI (PySem.W.findIn K (.ref C) "__init__") && (isTyp "function" (PySem.W.typeIn K (.ref fI)) &&
  (PySem.W.keepIn K (.ref C) && (decide (PySem.W.subIn K (.ref C) (.type "BaseException") = some true) && (isTyp "type" (PySem.W.typeIn K (.ref C)) && (xfB K C && isSN (PySem.W.findIn K (.ref C) f))))))))))
theorem xcB_ok {K : PySem.W.Frag} {C fI : Addr} {f : Str} (h : xcB K C fI f = true) : XcC K C fI f := by
  unfold xcB at h
  simp only [Bool.and_eq_true, Bool.or_eq_true, decide_eq_true_eq] at h
  obtain ⟨h0, h1, h2, h3, h4, h5, h6, h7, h8, h9, h10⟩ := h
  refine ⟨?_, isSN_ok h1, h2, He.eqO_ok h3, isAdr_ok h4, isTyp_ok h5, h6, h7, isTyp_ok h8, xfB_ok h9, isSN_ok h10⟩
  rcases h0 with ⟨a, b⟩ | ⟨a, b⟩ | ⟨a, b⟩
  · exact ⟨_, _, _, _, PySem.F.excBase_ValueError, PySem.F.store_ValueError, a, b⟩
  · exact ⟨_, _, _, _, PySem.F.excBase_LookupError, PySem.F.store_LookupError, a, b⟩
  · exact ⟨_, _, _, _, PySem.F.excBase_ArithmeticError, PySem.F.store_ArithmeticError, a, b⟩
def xnCB (K : PySem.W.Frag) (C : Addr) : Bool :=
  (PySem.W.excIn K C (exTail "ValueError") "ValueError.__new__" || (PySem.W.excIn K C (exTail "LookupError") "LookupError.__new__" || PySem.W.excIn K C (exTail "ArithmeticError") "ArithmeticError.__new__")) &&
  (PySem.W.keepIn K (.ref C) && (decide (PySem.W.subIn K (.ref C) (.type "BaseException") = some true) && isTyp "type" (PySem.W.typeIn K (.ref C))))
def codeOf (K : PySem.W.Frag) (f : Addr) : Addr := match K.lookup f with
  | some ⟨_, _, .func fd, _⟩ => (match fd.code with | .ref c => c | _ => 0)
  | _ => 0
def tblOf (K : PySem.W.Frag) (c : Addr) : Addr := match K.lookup c with
  | some ⟨_, _, .fields vs, _⟩ => (match (vs[11]? : Option Value) with | some (Value.ref P) => P | _ => 0)
  | _ => 0
def codeB (K : PySem.W.Frag) (f : Addr) : Bool := match K.lookup f with
  | some ⟨_, _, .func fd, _⟩ => (match fd.code with
    | .ref c => (match K.lookup c with
      | some ⟨.type t, _, .fields vs, _⟩ => decide (t = "code") && (match (vs[11]? : Option Value), vs.getD 18 .none, vs.getD 7 .none, vs.getD 9 .none, vs.getD 10 .none with
        | some (Value.ref P), Value.str _ _, Value.int _ _, Value.bool _, Value.int _ _ => decide (c ≠ P) && (K.lookup P).isNone
        | _, _, _, _, _ => false)
      | _ => false)
    | _ => false)
  | _ => false
def codes (K : PySem.W.Frag) (fs : List Str) : List (Addr × Addr) := fs.map fun x => (codeOf K (He.ga K x), tblOf K (codeOf K (He.ga K x)))
end MP
set_option maxRecDepth 100000
set_option maxHeartbeats 1000000
namespace MP
open PySem PySem.Spec PyProof.Rows L2
variable [TabsP] [ThkP]
def prA (K : PySem.W.Frag) (C f : Str) : Addr := match PySem.W.recIn K (He.ma K (He.ga K C) f) "property" with
  | some (.ref g :: _) => g
  | _ => 0
def cmA (K : PySem.W.Frag) (C f : Str) : Addr := match PySem.W.recIn K (He.ma K (He.ga K C) f) "classmethod" with
  | some (.ref g :: _) => g
  | _ => 0
inductive Loc3 where
  | g (x : Str) | m (C f : Str) | p (C f : Str) | c (C f : Str)
def Loc3.at_ (K : PySem.W.Frag) : Loc3 → Addr
  | .g x => He.ga K x
  | .m C f => He.ma K (He.ga K C) f
  | .p C f => prA K C f
  | .c C f => cmA K C f
structure DefM where
  loc : Loc3
  name : Str
  qual : Str
  params : Arguments
  body : List Stmt
  scope : Scope
  dfl : List He.Dv := []
  kwd : List (Str × He.Dv) := []
def DefM.val (d : DefM) : He.FnW := some (d.name, d.qual, d.params, .stmts d.body, d.scope, mainGlobals, [], builtinsNs)
def DefM.dvs (K : PySem.W.Frag) (d : DefM) : List V := d.dfl.map (He.Dv.v K)
def DefM.kws (K : PySem.W.Frag) (d : DefM) : List (Str × V) := d.kwd.map fun p => (p.1, p.2.v K)
def fnA (K : PySem.W.Frag) (a : Addr) : He.FnW := match K.lookup a with
  | some ⟨_, _, .func fd, _⟩ => some (fd.name, fd.qualname, fd.params, fd.body, fd.scope, fd.globals, fd.closure, fd.builtins)
  | _ => none
def DefM.ok (K : PySem.W.Frag) (d : DefM) : Bool := PySem.W.keepIn K (.ref (d.loc.at_ K)) && (match K.lookup (d.loc.at_ K) with
  | some ⟨_, _, .func fd, _⟩ => PySem.W.codeIn K fd.code d.qual && (He.dflB K fd.defaults (d.dvs K) && He.kwdB K fd.kwdefaults (d.kws K))
  | _ => false)
theorem DefM.funD {K : PySem.W.Frag} {d : DefM} (e : fnA K (d.loc.at_ K) = d.val) (c : d.ok K = true) : ∃ fd, FunD K d.name d.qual d.params d.body d.scope (d.dvs K) (d.kws K) (d.loc.at_ K) fd := by
  obtain ⟨kp, c2⟩ := He.ba c
  unfold fnA at e
  cases q : K.lookup (d.loc.at_ K) with
  | none => rw [q] at c2; cases c2
  | some o =>
    rw [q] at c2 e
    obtain ⟨oc, od, dt, osl⟩ := o
    cases dt with
    | func fd =>
      obtain ⟨n1, n2, n3, n4, n5, n6, n7, n8, n9, n10, n11, n12, n13, n14, n15⟩ := fd
      have e2 : (some (n1, n2, n3, n4, n5, n6, n7, n15) : He.FnW) = d.val := e
      unfold DefM.val at e2
      simp only [Option.some.injEq, Prod.mk.injEq] at e2
      obtain ⟨h1, h2, h3, h4, h5, h6, h7, h8⟩ := e2
      subst h1 h2 h3 h4 h5 h6 h7 h8
      obtain ⟨k1, k2⟩ := He.ba c2
      obtain ⟨k3, k4⟩ := He.ba k2
      exact ⟨_, ⟨oc, od, n8, n9, n10, n11, n12, n13, n14, osl, rfl, q, k1, He.dflB_ok k3, He.kwdB_ok k4⟩, kp⟩
    | _ => cases c2
inductive Fm where
  | prop (C f : Str)
  | clsT (c : Str)
  | kit (c : Str) (T : String) (b : Bool)
  | kitT (T : String) (c : Str) (b : Bool)
  | kitC (c d : Str) (b : Bool)
  | kitA (c : Str)
  | strs (x : Str) (ws : List Str)
  | cm (C f : Str)
  | xc (C f : Str)
  | exm (c d : Str) (b : Bool)
  | xf (c f : Str)
  | code (x : Str)
  | dtup (C f : Str) (i : Nat)
  | excC (c : Str)
  | neO (c : Str)
  | xn (C : Str)
def clsTB (K : PySem.W.Frag) (c : Str) : Bool := (He.Fa.cls c).ok K && (He.eqO (PySem.W.findIn K (.ref (He.ga K c)) "__class__") (some (some (.builtin "object.__class__"))) && (He.eqO (PySem.W.specialIn K (.builtin "object.__class__") "__get__") (some (some (.builtin "getset_descriptor.__get__"))) &&
  (decide (PySem.W.takesIn K (.builtin "object.__class__") = some true) && decide (PySem.W.mroIn K (He.ga K c) (.type "object") = some true))))
theorem clsTB_ok {K : PySem.W.Frag} {c : Str} (h : clsTB K c = true) : ClsT K c := by
  obtain ⟨h1, h⟩ := He.ba h
  obtain ⟨h2, h⟩ := He.ba h
  obtain ⟨h3, h⟩ := He.ba h
  obtain ⟨h4, h5⟩ := He.ba h
  exact ⟨He.cls_ok h1, He.eqO_ok h2, He.eqO_ok h3, of_decide_eq_true h4, of_decide_eq_true h5⟩
def propB (K : PySem.W.Frag) (C f : Str) : Bool := He.eqO (PySem.W.findIn K (.ref (He.ga K C)) f) (some (some (.ref (He.ma K (He.ga K C) f)))) && (He.eqO (PySem.W.specialIn K (.ref (He.ma K (He.ga K C) f)) "__get__") (some (some (.builtin "property.__get__"))) &&
  (decide (PySem.W.takesIn K (.ref (He.ma K (He.ga K C) f)) = some true) && (match PySem.W.recIn K (He.ma K (He.ga K C) f) "property" with
    | some (.ref _ :: _) => true
    | _ => false)))
theorem propB_ok {K : PySem.W.Frag} {C f : Str} (h : propB K C f = true) : PropOf K (He.ga K C) f (He.ma K (He.ga K C) f) (prA K C f) := by
  obtain ⟨h1, h⟩ := He.ba h
  obtain ⟨h2, h⟩ := He.ba h
  obtain ⟨h3, h⟩ := He.ba h
  refine ⟨He.eqO_ok h1, He.eqO_ok h2, of_decide_eq_true h3, ?_⟩
  unfold prA
  split at h
  · rename_i g rest e
    rw [e]
    exact ⟨rest, rfl⟩
  · cases h
def isTupC : Value → Bool
  | .type n => decide (n = "tuple")
  | _ => false
theorem isTupC_ok {c : Value} (h : isTupC c = true) : c = .type "tuple" := by
  cases c with
  | type n => exact congrArg _ (of_decide_eq_true h)
  | _ => cases h
def strsB (K : PySem.W.Frag) (x : Str) (ws : List Str) : Bool := match K.lookup (He.ga K x) with
  | some ⟨cls, _, .seq its _, _⟩ => isTupC cls && (decide (its.size ≤ sizeLine) && He.relAll (ws.map V.str) its.toList)
  | _ => false
theorem strsB_ok {K : PySem.W.Frag} {x : Str} {ws : List Str} {H : Hp} (h : strsB K x ws = true) : SqT K H (He.ga K x) (ws.map V.str) := by
  unfold strsB at h
  split at h
  · rename_i cls dd its n sl e
    obtain ⟨h1, h⟩ := He.ba h
    obtain ⟨h2, h3⟩ := He.ba h
    exact .inr ⟨_, its, n, e, isTupC_ok h1, rfl, of_decide_eq_true h2, He.relAll_ok h3⟩
  · cases h
def dtupB (K : PySem.W.Frag) (C f : Str) (i : Nat) : Bool := match K.lookup (He.dflAt (C, some f) i K) with
  | some ⟨cls, _, .seq its _, _⟩ => isTupC cls && decide (its.toList = [])
  | _ => false
theorem dtupB_ok {K : PySem.W.Frag} {C f : Str} {i : Nat} {H : Hp} (h : dtupB K C f i = true) : SqT K H (He.dflAt (C, some f) i K) [] := by
  unfold dtupB at h
  split at h
  · rename_i cls dd its n sl e
    obtain ⟨h1, h2⟩ := He.ba h
    have h3 := of_decide_eq_true h2
    refine .inr ⟨_, its, n, e, isTupC_ok h1, rfl, ?_, by rw [h3]; exact .nil⟩
    have : its.size = 0 := by rw [← Array.length_toList, h3]; rfl
    omega
  · cases h
structure CmOf (K : PySem.W.Frag) (C : Addr) (f : Str) (p g : Addr) : Prop where
  rd : PySem.W.readsIn K C (.type "type") = true
  ga : PySem.W.specialIn K (.ref C) "__getattribute__" = some (some (.builtin "type.__getattribute__"))
  at_ : PySem.W.findCls K (.ref C) (.type "type") f = some (.get (.builtin "classmethod.__get__") (.ref p) .none (.ref C))
  rc : ∃ rest, PySem.W.recIn K p "classmethod" = some (.ref g :: rest)
  fi : PySem.W.fnIn K g = true
def cmB (K : PySem.W.Frag) (C f : Str) : Bool := PySem.W.readsIn K (He.ga K C) (.type "type") && (He.eqO (PySem.W.specialIn K (.ref (He.ga K C)) "__getattribute__") (some (some (.builtin "type.__getattribute__"))) && ((match PySem.W.findCls K (.ref (He.ga K C)) (.type "type") f with
    | some (.get (.builtin b) (.ref p) .none (.ref d)) => decide (b = "classmethod.__get__") && (decide (p = He.ma K (He.ga K C) f) && decide (d = He.ga K C))
    | _ => false) && ((match PySem.W.recIn K (He.ma K (He.ga K C) f) "classmethod" with
    | some (.ref _ :: _) => true
    | _ => false) && PySem.W.fnIn K (cmA K C f))))
theorem cmB_ok {K : PySem.W.Frag} {C f : Str} (h : cmB K C f = true) : CmOf K (He.ga K C) f (He.ma K (He.ga K C) f) (cmA K C f) := by
  obtain ⟨h1, h⟩ := He.ba h
  obtain ⟨h2, h⟩ := He.ba h
  obtain ⟨h3, h⟩ := He.ba h
  obtain ⟨h4, h5⟩ := He.ba h
  refine ⟨h1, He.eqO_ok h2, ?_, ?_, h5⟩
  · split at h3
    · rename_i b p d e
      obtain ⟨k1, k⟩ := He.ba h3
      obtain ⟨k2, k3⟩ := He.ba k
      rw [e, of_decide_eq_true k1, of_decide_eq_true k2, of_decide_eq_true k3]
    · cases h3
  · unfold cmA
    split at h4
    · rename_i g rest e
      rw [e]
      exact ⟨rest, rfl⟩
    · cases h4
def excCB (K : PySem.W.Frag) (C : Addr) : Bool := xfB K C && (He.eqO (PySem.W.findIn K (.ref C) "__class__") (some (some (.builtin "object.__class__"))) && (He.eqO (PySem.W.specialIn K (.builtin "object.__class__") "__get__") (some (some (.builtin "getset_descriptor.__get__"))) && (decide (PySem.W.takesIn K (.builtin "object.__class__") = some true) && decide (PySem.W.mroIn K C (.type "object") = some true))))
def Fm.ok (K : PySem.W.Frag) : Fm → Bool
  | .prop C f => propB K C f
  | .clsT c => clsTB K c
  | .kit c T b => decide (PySem.W.kitOne K (.ref (He.ga K c)) (.type T) = some b)
  | .kitT T c b => decide (PySem.W.kitOne K (.type T) (.ref (He.ga K c)) = some b)
  | .kitC c d b => decide (PySem.W.kitOne K (.ref (He.ga K c)) (.ref (He.ga K d)) = some b)
  | .kitA c => tyNs.all fun n => decide (PySem.W.kitOne K (.type n) (.ref (He.ga K c)) = some false)
  | .strs x ws => strsB K x ws
  | .cm C f => cmB K C f
  | .xc C f => xcB K (He.ga K C) (He.ma K (He.ga K C) "__init__") f
  | .exm c d b => decide (PySem.W.exmOne K (.ref (He.ga K c)) (.ref (He.ga K d)) = some b)
  | .xf c f => xfB K (He.ga K c) && isSN (PySem.W.findIn K (.ref (He.ga K c)) f)
  | .code x => codeB K (He.ga K x)
  | .dtup C f i => dtupB K C f i
  | .excC c => excCB K (He.ga K c)
  | .xn c => xnCB K (He.ga K c)
  | .neO c => He.eqO (PySem.W.findIn K (.ref (He.ga K c)) "__ne__") (some (some (.builtin "object.__ne__"))) && decide (PySem.W.mroIn K (He.ga K c) (.type "object") = some true)
abbrev AlM : Type := Bool × List He.FnW
def obsM (fa : List He.Fa) (fm : List Fm) (fn : List DefM) (K : PySem.W.Frag) : AlM := ((fa.all fun f => f.ok K) && ((fm.all fun f => f.ok K) && fn.all fun d => d.ok K), fn.map fun d => fnA K (d.loc.at_ K))
def valM (fn : List DefM) : AlM := (true, fn.map DefM.val)
def SaysM (fa : List He.Fa) (fm : List Fm) (fn : List DefM) (K : PySem.W.Frag) : Prop := obsM fa fm fn K = valM fn
section
variable {fa : List He.Fa} {fm : List Fm} {fn : List DefM} {K : PySem.W.Frag}
theorem SaysM.all (c : SaysM fa fm fn K) : (fa.all fun f => f.ok K) = true ∧ (fm.all fun f => f.ok K) = true ∧ (fn.all fun d => d.ok K) = true := by
  have e : ((fa.all fun f => f.ok K) && ((fm.all fun f => f.ok K) && fn.all fun d => d.ok K)) = true := congrArg (fun z : AlM => z.1) c
  obtain ⟨h1, h⟩ := He.ba e
  obtain ⟨h2, h3⟩ := He.ba h
  exact ⟨h1, h2, h3⟩
theorem SaysM.a (c : SaysM fa fm fn K) (i : Nat) {f : He.Fa} (h : fa[i]? = some f) : f.ok K = true := List.all_eq_true.mp c.all.1 f (List.mem_of_getElem? h)
theorem SaysM.b (c : SaysM fa fm fn K) (i : Nat) {f : Fm} (h : fm[i]? = some f) : f.ok K = true := List.all_eq_true.mp c.all.2.1 f (List.mem_of_getElem? h)
theorem SaysM.d (c : SaysM fa fm fn K) (i : Nat) {d : DefM} (h : fn[i]? = some d) : ∃ fd, FunD K d.name d.qual d.params d.body d.scope (d.dvs K) (d.kws K) (d.loc.at_ K) fd := by
  refine DefM.funD ?_ (List.all_eq_true.mp c.all.2.2 d (List.mem_of_getElem? h))
  have e : (fn.map fun d => fnA K (d.loc.at_ K)) = fn.map DefM.val := congrArg (fun z : AlM => z.2) c
  have e2 := congrArg (fun l : List He.FnW => l[i]?) e
  simp only [List.getElem?_map, h, Option.map_some, Option.some.injEq] at e2
  exact e2
end
theorem takesX {P : Program} {w : World} {K : PySem.W.Frag} {mg : Str → Option Value} {base : Heap} {N : List Str} {qual : Str} {scope : Scope} {f : Addr} {cd : Value} {A : Around} {outer : List Env} {s : Shared} {H : Hp} {E : XK} :
    Takes (cxOf (L2.CX P w) P w K mg base N qual scope f cd A outer s H E) (wxE E) := takes_of (X := cxOf (L2.CX P w) P w K mg base N qual scope f cd A outer s H E) (E := E) rfl rfl rfl rfl
theorem pasX {P : Program} {w : World} {K : PySem.W.Frag} {mg : Str → Option Value} {base : Heap} {N : List Str} {qual : Str} {scope : Scope} {f : Addr} {cd : Value} {A : Around} {outer : List Env} {s : Shared} {H : Hp} {E : XK} :
    Pas (cxOf (L2.CX P w) P w K mg base N qual scope f cd A outer s H E) (wxE E) := fun σ => passAt takesX σ
theorem ownX {P : Program} {w : World} {K : PySem.W.Frag} {mg : Str → Option Value} {base : Heap} {N : List Str} {qual : Str} {scope : Scope} {f : Addr} {cd : Value} {A : Around} {outer : List Env} {s : Shared} {H : Hp} {E : XK} :
    PassesOwn (model (cxOf (L2.CX P w) P w K mg base N qual scope f cd A outer s H E).prog w) (cxOf (L2.CX P w) P w K mg base N qual scope f cd A outer s H E).A (cxOf (L2.CX P w) P w K mg base N qual scope f cd A outer s H E).env (cxOf (L2.CX P w) P w K mg base N qual scope f cd A outer s H E).xe := passes_of (X := cxOf (L2.CX P w) P w K mg base N qual scope f cd A outer s H E) rfl
def CXa (P : Program) : CXT := fun outer H s E u s' => ∃ w, L2.CX P w outer H s E u s'
theorem fn_any {P : Program} {w : World} {K : PySem.W.Frag} {mg : Str → Option Value} {base : Heap} {k : Nat} {f : Addr} {fd : FuncData} {ps : List Str} {sp : Sp} (F : FnOk P w K mg base (L2.CX P w) k f fd ps sp) : FnOk P w K mg base (CXa P) k f fd ps sp := by
  refine ⟨F.len, fun A outer s H args us vs Q E hr he hb hv hs => codeAny_mono (F.run A outer s H args us vs Q E hr he hb hv hs) fun r s' q => ?_⟩
  cases r with
  | error e => exact ⟨w, q⟩
  | ok fl => cases fl <;> exact q
theorem cxa_end {P : Program} (H : Hp) (s : Shared) (e : Value) (s' : Shared) (c : CXa P [] H s (fun _ _ _ => False) e s') : False := by
  obtain ⟨_, _, _, _, _, _, _, _, _, _, _, _, _, z⟩ := c
  exact z
theorem law_sp {K : PySem.W.Frag} {c : List D → List D → R} {H : Hp} {a : Addr} {ns : List Int} (hS : SqL K H a (ns.map V.int)) (h : ∃ M, c [.scr ns] [] = .ok (.bl true) M) (hT : LamX.Tabs TabsP.ts H := by exact fun _ z => nomatch z) : spD K (DE K) 1 c [.ref a] H (fun v _ => v = .bl true) fun _ _ _ => False := by
  refine ⟨rfl, H, [], [], [.scr ns], ⟨fun _ _ h => h, rfl, List.nodup_nil, fun n a d h => by simp at h, hT⟩, .cons (.scr hS) .nil, ?_⟩
  obtain ⟨M, h⟩ := h
  rw [h]
  intro v F' Ad' H' _ _ x
  cases x; rfl
end MP
set_option maxRecDepth 100000
set_option maxHeartbeats 2000000
namespace MP
open PySem PySem.Spec PyProof.Rows L2
variable [TabsP] [ThkP]
theorem law_callG {P : Program} {w : World} {K : PySem.W.Frag} {mg mb : Str → Option Value} {CX : CXT} {k : Nat} {fa a : Addr} {fd : FuncData} {x : Str} {sp : Sp} {s₁ : Shared} {vs : List Value} {ns : List Int}
    (KX : K.In s₁.heap) (hns : s₁.heap.Ns mainGlobals mg) (hb : s₁.heap.Ns builtinsNs mb) (hbb : ∀ x : Str, x ≠ "__name__" → mb x = bootBuiltins x) (hlim : s₁.heap.NoLimit) (hg : s₁.gens = #[])
    (ha : s₁.heap.get? a = some { cls := .type "list", data := .seq vs.toArray }) (hi : IntsAre vs ns) (hl : ns.length ≤ sizeLine) (hr : MP.Room k callerA)
    (F : ∀ base : Heap, K.In base → base.Ns mainGlobals mg → MP.FnOk P w K mg base CX k fa fd [x] sp) (hbind : ∀ (s : Shared) (u : Value), BindsTo s fd ⟨[u], []⟩ [(x, u)])
    (hsp : ∀ H : Hp, Only H → SqL K H a (ns.map V.int) → sp [.ref a] H (fun v _ => v = .bl true) fun _ _ _ => False)
    (hCX : ∀ H e s', CX [] H s₁ (fun _ _ _ => False) e s' → False) :
    codeAny (model P w) callerA (.call (.ref fa) ⟨[.ref a], []⟩) (fun r s' => r = .ok (.ret (.bool true)) ∧ OldK s₁.heap s'.heap ∧ s'.os = s₁.os ∧ AllBare s'.gens) s₁ := by
  have core : ∀ H : Hp, Only H → SqL K H a (ns.map V.int) → HOk P w H s₁.heap → (∀ b, H b ≠ none → b = a) → (H a ≠ none → K.lookup a = none) →
      codeAny (model P w) callerA (.call (.ref fa) ⟨[.ref a], []⟩) (fun r s' => r = .ok (.ret (.bool true)) ∧ OldK s₁.heap s'.heap ∧ s'.os = s₁.os ∧ AllBare s'.gens) s₁ := by
    intro H hO hS hok hA hK
    have out : ∀ {b : Addr} {o : Obj}, s₁.heap.get? b = some o → b ≠ a → (hidT s₁.heap H).get? b = some o := fun {b o} e ne => hidT_get e (by
      cases q : H b with
      | none => rfl
      | some u => exact absurd (hA b (by simp [q])) ne)
    have nsK : ∀ {b : Addr} {m : Str → Option Value}, s₁.heap.Ns b m → (hidT s₁.heap H).Ns b m := fun {b m} ⟨o, es, ep, e, d, r⟩ => ⟨o, es, ep, out e (by
      rintro rfl
      rw [ha] at e; cases e
      exact Data.noConfusion d), d, r⟩
    have hKb : K.In (hidT s₁.heap H) := fun b o e => by
      by_cases z : b = a
      · subst z
        refine hidT_get (KX b o e) ?_
        cases q : H b with
        | none => rfl
        | some u => rw [hK (by simp [q])] at e; cases e
      · exact out (KX b o e) z
    obtain ⟨mc, l1, l2⟩ := hlim
    have hM : Mod K mg (hidT s₁.heap H) := ⟨hKb, nsK hns, ⟨mb, nsK hb, hbb⟩, ⟨mc, nsK l1, l2⟩⟩
    have e0 : Env0 P w K mg (hidT s₁.heap H) callerA [] s₁ H := ⟨rfl, hM, fun b o e => of_hidT e, Nat.le_of_eq (hidT_size _ _), trivial, fun b hb => absurd (show b ∈ ([] : List Addr) from hb) (by simp), hok, .of_eq hg⟩
    refine codeAny_mono ((F _ hKb (nsK hns)).run callerA [] s₁ H ⟨[.ref a], []⟩ [.ref a] [.ref a] _ _ hr e0 (hbind s₁ (.ref a)) (.cons rfl .nil) (hsp H hO hS)) fun r s' h => ?_
    cases r with
    | error e => exact (hCX H e s' h).elim
    | ok fl => cases fl with
      | ret u =>
        obtain ⟨v, H', os, bare, un, hok', r', q⟩ := h
        cases (show v = .bl true from q)
        cases (show u = Value.bool true from r')
        refine ⟨rfl, OldK.of_keep fun b o e => ?_, os, bare⟩
        cases q : H b with
        | none => exact un.keep b o e q (by intro z; exact absurd (show b ∈ ([] : List Addr) from z) (by simp)) (by simp)
        | some u =>
          rcases hO b with z | ⟨ob, xs, z⟩
          · rw [q] at z; cases z
          · have e1 := (hok b _ z).1
            have e2 := (hok' b _ (un.frzs b ob _ z)).1
            rw [e] at e1; cases e1
            exact e2
      | _ => exact (show False from h).elim
  cases hk : K.lookup a with
  | some o =>
    have e := KX a o hk
    rw [ha] at e; cases e
    exact core (fun _ => none) (fun _ => .inl rfl) (.inr ⟨_, vs.toArray, _, hk, rfl, rfl, rfl, by rw [List.size_toArray, hi.length]; exact hl, by simpa using vals_ints hi⟩) (fun b u z => nomatch z) (fun b z => absurd rfl z) fun z => absurd rfl z
  | none =>
    have at_ : ∀ {b : Addr} {u : HO}, (if b = a then some (HO.frz { cls := .type "list", data := .seq vs.toArray } (.lst (ns.map V.int))) else none) = some u → b = a ∧ u = .frz { cls := .type "list", data := .seq vs.toArray } (.lst (ns.map V.int)) := fun {b u} z => by
      split at z
      · exact ⟨‹_›, by cases z; rfl⟩
      · cases z
    refine core (fun b => if b = a then some (.frz { cls := .type "list", data := .seq vs.toArray } (.lst (ns.map V.int))) else none) (fun b => ?_) (.inl (.inr ⟨{ cls := .type "list", data := .seq vs.toArray }, if_pos rfl⟩)) (fun b u z => ?_) (fun b z => ?_) fun _ => hk
    · by_cases hb : b = a
      · exact .inr ⟨_, _, if_pos hb⟩
      · exact .inl (if_neg hb)
    · obtain ⟨rfl, rfl⟩ := at_ z
      exact ⟨ha, by rw [List.length_map]; exact hl, vs, _, vals_ints hi, ha⟩
    · by_cases hb : b = a
      · exact hb
      · exact absurd (if_neg hb) z
theorem walk_ofG {l : PySem.W.OpenLaw} {n k : Nat} {q : Program} {loose : List Str} {XP : (Str → Option Value) → Heap → Prop} {YP : World → Heap → Prop} {d : DefRec} {CX : CXT} {x : Str}
    (hn : l.most = some n) (hn2 : n ≤ sizeLine) (hdf : d.params.defaults = []) (hr : L2.Room k callerA)
    (F : ∀ (w : World) (mg : Str → Option Value) (fa : Addr) (h : Heap), YP w h → h.Ns mainGlobals mg → mg d.name = some (.ref fa) →
      ∃ (K : PySem.W.Frag) (fd : FuncData) (sp : Sp), K.In h ∧ (∀ (s : Shared) (u : Value), BindsTo s fd ⟨[u], []⟩ [(x, u)]) ∧
        (∀ (H : Hp) (a : Addr) (ns : List Int), ns.length ≤ n → Only H → SqL K H a (ns.map V.int) → sp [.ref a] H (fun v _ => v = .bl true) fun _ _ _ => False) ∧
        ∀ base : Heap, K.In base → base.Ns mainGlobals mg → MP.FnOk l.prog w K mg base CX k fa fd [x] sp)
    (hCX : ∀ (H : Hp) (s : Shared) (e : Value) (s' : Shared), CX [] H s (fun _ _ _ => False) e s' → False) :
    PySem.W.WalkO q loose XP YP l.row.toRowW d [] (fun f vs => PySem.call f vs) :=
  Att.attach_call hn hdf fun w s₀ s₁ mg mb fa o pm cd doc a vs ns G Y ho hd hcd hmg hobj hints hlen hg => by
    obtain ⟨K, fd, sp, KX, hb, hsp, hF⟩ := F w mg fa _ Y G.T.g hmg
    exact law_callG KX G.T.g G.T.b G.T.builtins G.T.nolimit hg hobj hints (Nat.le_trans hlen hn2) ⟨hr, rfl⟩ hF hb (fun H hO hS => hsp H a ns hlen hO hS) fun H e s' => hCX H s₁ e s'
end MP
set_option maxRecDepth 100000
set_option maxHeartbeats 1000000
namespace MP
open PySem PySem.Spec PyProof.Rows L2
variable [TabsP] [ThkP]
section
variable {X : Cx} {W : WX} {K : PySem.W.Frag} {DR : DRel} {N0 : Ent} {F H : Hp} {Ad : List Addr} {M : List D} {env : EnvM} {σ : St} {Q : VK} {a b c : Expr} {fa fb fc : EF} {pos : Pos}
theorem chain_read {op op' : CmpOp} {g g' : D → D → List D → R} (h : tG X.K W (DE X.K) (eChain g g' fa fb fc) σ H Q) :
    tChain (rOp X (fun c d H => W c d σ H) (DE X.K) g) (rOp X (fun c d H => W c d σ H) (DE X.K) g') (tG X.K W (DB X.K) fa) (tG X.K W (DB X.K) fb) (tG X.K W (DB X.K) fc) σ H Q := by
  obtain ⟨N0, F, Ad, M, env, m, en, r⟩ := h
  refine tG_seq DE.ok m en r fun d M1 v F1 Ad1 H1 g1 m1 en1 x1 r1 => ?_
  refine tG_seq DE.ok m1 en1 r1 fun d2 M2 v2 F2 Ad2 H2 g2 m2 en2 x2 r2 => ?_
  refine ⟨F2, Ad2, M2, d, d2, m2, DB.gr g2 x1, x2, ?_⟩
  cases q : g d d2 M2 with
  | ok d3 M3 =>
    rw [q] at r2
    intro v3 F3 Ad3 H3 g3 m3 x3
    have r3 := RP.gr DE.ok r2 g3
    have en3 := en2.gr g3
    cases d3 with
    | bl k =>
      cases x3
      refine ⟨k, rfl, ?_⟩
      cases k with
      | true =>
        refine tG_seq DE.ok m3 en3 r3 fun d4 M4 v4 F4 Ad4 H4 g4 m4 en4 x4 r4 => ?_
        exact ⟨F4, Ad4, M4, d2, d4, m4, DB.gr g4 (DB.gr g3 x2 (H0' := H3)), x4, r4⟩
      | false => exact RP.here r3 m3 .bl
    | _ => exact r3.elim
  | exc x M3 => rw [q] at r2; exact r2
  | stuck => rw [q] at r2; exact r2
theorem se_ch {op op' : CmpOp} {g g' : D → D → List D → R} (ho : Op2 X (DE X.K) (compareOp op) g) (ho' : Op2 X (DE X.K) (compareOp op') g') (ha : SB X W a fa) (hb : SB X W b fb) (hc : SB X W c fc) (hm : lastMarks [op, op'] [b, c] = false := by rfl) :
    SE X W (.Compare a [op, op'] [b, c] pos) (eChain g g' fa fb fc) :=
  ⟨fun pins s σ H Q I h => (pe_chain (ho.opR (E := fun c d H => W c d σ H)) (ho'.opR (E := fun c d H => W c d σ H)) ha hb hc hm).run pins s σ H Q I (chain_read (op := op) (op' := op') h)⟩
theorem st_ch {op op' : CmpOp} {g g' : D → D → List D → R} (ho : Op2 X (DE X.K) (compareOp op) g) (ho' : Op2 X (DE X.K) (compareOp op') g') (ha : SB X W a fa) (hb : SB X W b fb) (hc : SB X W c fc) (hm : lastMarks [op, op'] [b, c] = false := by rfl) :
    ST X W (.Compare a [op, op'] [b, c] pos) (eChain g g' fa fb fc) :=
  ⟨fun pins s σ H Q I ⟨N0, F, Ad, M, env, m, en, r⟩ => (pt_chain (ho.opR (E := fun c d H => W c d σ H)) (ho'.opR (E := fun c d H => W c d σ H)) ha hb hc hm).run pins s σ H Q I (chain_read (op := op) (op' := op') ⟨N0, F, Ad, M, env, m, en, by
    cases q : eChain g g' fa fb fc env M with
    | ok d M1 =>
      rw [q] at r
      intro v F' Ad' H' g m' x
      cases d with
      | bl b => cases x; exact ⟨b, rfl, r F' Ad' H' g m'⟩
      | _ => exact r.elim
    | exc x M1 => rw [q] at r; exact r
    | stuck => rw [q] at r; exact r⟩)⟩
def bPar (i j : Nat) (fa fb : EF) : SF := fun env M => (fa env M).bindS env fun d M1 => (fb env M1).bindS env fun d2 M2 => match gAll [i, j] [d, d2] env with
  | some env1 => .next env1 M2
  | none => .stuck
end
end MP
set_option maxRecDepth 100000
set_option maxHeartbeats 1000000
namespace MP
open PySem PySem.Spec PyProof.Rows L2
variable [TabsP] [ThkP]
section
variable {X : Cx} {W : WX} {x : Str} {pos : Pos}
theorem vE (i : Nat) (hN : X.N[i]? = some x := by rfl) (hv : Vis X.env.scope x := by first | exact Or.inl rfl | exact Or.inr (Or.inl rfl) | exact Or.inr (Or.inr rfl)) (hd : (x == ("__debug__" : Str)) = false := by decide) (hcd : (x == ("__classdict__" : Str)) = false := by decide) : SE X W (.Name x pos) (eV i) := se_var hN hv hd hcd
theorem vB (i : Nat) (hN : X.N[i]? = some x := by rfl) (hv : Vis X.env.scope x := by first | exact Or.inl rfl | exact Or.inr (Or.inl rfl) | exact Or.inr (Or.inr rfl)) (hd : (x == ("__debug__" : Str)) = false := by decide) (hcd : (x == ("__classdict__" : Str)) = false := by decide) : SB X W (.Name x pos) (eVB i) := sb_var hN hv hd hcd
theorem pgN (i : Nat) (hN : X.N.Nodup) (hi : X.N[i]? = some x := by rfl) (hx : Loc X.env.scope x := by first | exact Or.inl rfl | exact Or.inr rfl) (hf : X.fn x = true ∨ X.env.scope.names.lookup x = some .local := by first | exact .inl rfl | exact .inr rfl) : PG X (.Name x pos) (gName i) := pg_name hN hi hx hf
end
theorem u1 {k : Nat} {A : Around} (r : Room k A) : A.units + 1 < cLine := by have := r.units; omega
def clsB : Stmt → List Stmt
  | .ClassDef (body := b) .. => b
  | _ => []
end MP
set_option maxRecDepth 100000
set_option maxHeartbeats 1000000
namespace MP
open PySem L2
variable [TabsP] [ThkP]
@[simp] theorem R.bind_stuck {k} : R.stuck.bind k = .stuck := rfl
def RS.seq (r : RS) (k : SF) : RS := match r with
  | .next env M => k env M
  | r => r
@[simp] theorem RS.seq_next {env M k} : (RS.next env M).seq k = k env M := rfl
@[simp] theorem RS.seq_ret {d M k} : (RS.ret d M).seq k = .ret d M := rfl
@[simp] theorem RS.seq_cont {d M k} : (RS.cont d M).seq k = .cont d M := rfl
@[simp] theorem RS.seq_brk {d M k} : (RS.brk d M).seq k = .brk d M := rfl
@[simp] theorem RS.seq_stuck {k} : RS.stuck.seq k = .stuck := rfl
section
variable {f g fa fb fc fk fv a b c : EF} {l : LF} {env : EnvM} {M : List D} {p q : SF} {i j n : Nat} {d x y : D} {G : D → D → List D → R}
@[simp] theorem bSeq_eq : bSeq p q env M = (p env M).seq q := rfl
@[simp] theorem bNext_eq : bNext env M = .next env M := rfl
@[simp] theorem bPass_eq : bPass env M = .next env M := rfl
@[simp] theorem bBrk_eq : bBrk env M = .brk env M := rfl
@[simp] theorem bCont_eq : bCont env M = .cont env M := rfl
@[simp] theorem bRetN_eq : bRetN env M = .ret .non M := rfl
@[simp] theorem bRet_eq : bRet f env M = (f env M).bindS env fun d M1 => .ret d M1 := rfl
@[simp] theorem bExpr_eq : bExpr f env M = (f env M).bindS env fun _ M1 => .next env M1 := rfl
def setR (o : Option EnvM) (M : List D) : RS := match o with
  | some env1 => .next env1 M
  | none => .stuck
@[simp] theorem setR_some : setR (some env) M = .next env M := rfl
@[simp] theorem bSet_eq : bSet i f env M = (f env M).bindS env fun d M1 => setR (gN i d env) M1 := rfl
@[simp] theorem bSetT_eq {js} : bSetT js f env M = (f env M).bindS env fun d M1 => setR (gT js d env) M1 := rfl
@[simp] theorem bOwn_eq : bOwn i f env M = (f env M).bindS env fun d M1 => setR (oN i d env) M1 := rfl
@[simp] theorem bPar_eq : bPar i j fa fb env M = (fa env M).bindS env fun d M1 => (fb env M1).bindS env fun d2 M2 => setR (gAll [i, j] [d, d2] env) M2 := rfl
def gNb (o : Option B) (env : EnvM) (i : Nat) (b : B) : Option EnvM := match o with
  | some (.slf _) => none
  | some _ => some (env.set i b)
  | none => none
@[simp] theorem gNb_no {b} : gNb (some .no) env i b = some (env.set i b) := rfl
@[simp] theorem gNb_shr {b} : gNb (some (.shr d)) env i b = some (env.set i b) := rfl
@[simp] theorem gNb_own {b} : gNb (some (.own d)) env i b = some (env.set i b) := rfl
def B.free (b : B) : Prop := match b with | .slf _ => False | _ => True
@[simp] theorem gNb_free {b c : B} (h : c.free) : gNb (some c) env i b = some (env.set i b) := by
  cases c <;> first | rfl | exact h.elim
@[simp] theorem free_no : B.free .no := trivial
@[simp] theorem free_shr : B.free (.shr d) := trivial
@[simp] theorem free_own : B.free (.own d) := trivial
@[simp] theorem free_par : B.free (.par d) := trivial
@[simp] theorem gN_eq : gN i d env = gNb env[i]? env i (.shr d) := by unfold gN gNb; split <;> simp_all
@[simp] theorem oN_eq : oN i d env = gNb env[i]? env i (.own d) := by unfold oN gNb; split <;> simp_all
@[simp] theorem gAll_nil : gAll [] [] env = some env := rfl
@[simp] theorem gAll_cons {js ds} : gAll (j :: js) (d :: ds) env = (gN j d env).bind (gAll js ds) := rfl
@[simp] theorem gT_tup {js ds} : gT js (.tup ds) env = gAll js ds env := rfl
def iteS (d : D) (r s : RS) : RS := match d with
  | .bl true => r
  | .bl false => s
  | _ => .stuck
@[simp] theorem iteS_bl {b : Bool} {r s} : iteS (.bl b) r s = if b = true then r else s := by cases b <;> rfl
theorem bindS_fun {k k' : D → List D → RS} (h : ∀ d M, k d M = k' d M) {r : R} : r.bindS env k = r.bindS env k' := by
  have : k = k' := by funext d M; exact h d M
  rw [this]
@[simp] theorem bIf_eq : bIf f p q env M = (f env M).bindS env fun d M1 => iteS d (p env M1) (q env M1) := by
  unfold bIf
  exact bindS_fun fun d M1 => by cases d <;> first | rfl | (rename_i b; cases b <;> rfl)
def iteR (d : D) (r s : R) : R := match d with
  | .bl true => r
  | .bl false => s
  | _ => .stuck
@[simp] theorem iteR_bl {b : Bool} {r s} : iteR (.bl b) r s = if b = true then r else s := by cases b <;> rfl
theorem iteR_fun {k k' : D → List D → R} (h : ∀ d M, k d M = k' d M) {r : R} : r.bind k = r.bind k' := by
  have : k = k' := by funext d M; exact h d M
  rw [this]
@[simp] theorem eIf_eq : eIf c a b env M = (c env M).bind fun x M1 => iteR x (a env M1) (b env M1) := by
  unfold eIf
  exact iteR_fun fun d M1 => by cases d <;> first | rfl | (rename_i b; cases b <;> rfl)
@[simp] theorem eAnd_eq : eAnd a b env M = (a env M).bind fun x M1 => iteR x (b env M1) (.ok (.bl false) M1) := by
  unfold eAnd
  exact iteR_fun fun d M1 => by cases d <;> first | rfl | (rename_i b; cases b <;> rfl)
@[simp] theorem eOr_eq : eOr a b env M = (a env M).bind fun x M1 => iteR x (.ok (.bl true) M1) (b env M1) := by
  unfold eOr
  exact iteR_fun fun d M1 => by cases d <;> first | rfl | (rename_i b; cases b <;> rfl)
def notR (d : D) (M : List D) : R := match d with | .bl c => .ok (.bl !c) M | _ => .stuck
@[simp] theorem notR_bl {b : Bool} : notR (.bl b) M = .ok (.bl !b) M := rfl
@[simp] theorem eNot_eq : eNot a env M = (a env M).bind notR := by
  unfold eNot
  exact iteR_fun fun d M1 => by cases d <;> rfl
@[simp] theorem eChain_eq {G G'} : eChain G G' a b c env M = (a env M).bind fun x M1 => (b env M1).bind fun y M2 => (G x y M2).bind fun r M3 => iteR r ((c env M3).bind fun z M4 => G' y z M4) (.ok (.bl false) M3) := by
  unfold eChain
  refine iteR_fun fun x M1 => iteR_fun fun y M2 => iteR_fun fun r M3 => ?_
  cases r <;> first | rfl | (rename_i b; cases b <;> rfl)
@[simp] theorem eC_eq : eC d env M = .ok d M := rfl
@[simp] theorem eNew_eq : eNew d env M = .ok d M := rfl
@[simp] theorem e2_eq : e2 G a b env M = (a env M).bind fun x M1 => (b env M1).bind fun y M2 => G x y M2 := rfl
@[simp] theorem e1_eq {g : D → List D → R} : e1 g a env M = (a env M).bind g := rfl
def getE (o : Option B) (M : List D) : R := match o with | some (.shr d) => .ok d M | _ => .stuck
def getB (o : Option B) (M : List D) : R := match o with | some (.shr d) => .ok d M | some (.own d) => .ok d M | some (.slf d) => .ok d M | _ => .stuck
@[simp] theorem getE_shr : getE (some (.shr d)) M = .ok d M := rfl
@[simp] theorem getB_shr : getB (some (.shr d)) M = .ok d M := rfl
@[simp] theorem getB_own : getB (some (.own d)) M = .ok d M := rfl
@[simp] theorem getB_slf : getB (some (.slf d)) M = .ok d M := rfl
@[simp] theorem eV_eq : eV i env M = getE env[i]? M := by unfold eV getE; split <;> simp_all
@[simp] theorem eVB_eq : eVB i env M = getB env[i]? M := by unfold eVB getB; split <;> simp_all
@[simp] theorem lNil_eq : lNil env M = .ok [] M := rfl
@[simp] theorem lCons_eq : lCons a l env M = (a env M).bindL fun x M1 => (l env M1).bindL fun xs M2 => .ok (x :: xs) M2 := rfl
@[simp] theorem eCall_eq {g} : eCall g l env M = (l env M).bind g := rfl
def lenR (f : List D → D) (xs : List D) (M : List D) : R := if xs.length ≤ sizeLine then .ok (f xs) M else .stuck
@[simp] theorem lenR_le {f xs} (h : xs.length ≤ sizeLine) : lenR f xs M = .ok (f xs) M := by unfold lenR; rw [if_pos h]
@[simp] theorem lenR0 {f} : lenR f [] M = .ok (f []) M := lenR_le (Nat.zero_le _)
@[simp] theorem lenR1 {f a1} : lenR f [a1] M = .ok (f [a1]) M := lenR_le (show 1 ≤ sizeLine by decide)
@[simp] theorem lenR2 {f a1 a2} : lenR f [a1, a2] M = .ok (f [a1, a2]) M := lenR_le (show 2 ≤ sizeLine by decide)
@[simp] theorem lenR3 {f a1 a2 a3} : lenR f [a1, a2, a3] M = .ok (f [a1, a2, a3]) M := lenR_le (show 3 ≤ sizeLine by decide)
@[simp] theorem lenR4 {f a1 a2 a3 a4} : lenR f [a1, a2, a3, a4] M = .ok (f [a1, a2, a3, a4]) M := lenR_le (show 4 ≤ sizeLine by decide)
@[simp] theorem eTup_eq : eTup l env M = (l env M).bind (lenR .tup) := rfl
@[simp] theorem eLst_eq : eLst l env M = (l env M).bind (lenR .lst) := rfl
@[simp] theorem eCell_eq : eCell f env M = (f env M).bind fun d M1 => .ok (.cel M1.length) (M1 ++ [d]) := rfl
@[simp] theorem apC_eq {c n dd xs} : apC c n dd xs M = if (xs ++ dd).length = n then c (xs ++ dd) M else .stuck := rfl
@[simp] theorem oAdd_int {i j : Int} : oAdd (.int i) (.int j) M = .ok (.int (i + j)) M := rfl
@[simp] theorem oSub_int {i j : Int} : oSub (.int i) (.int j) M = .ok (.int (i - j)) M := rfl
@[simp] theorem oMul_int {i j : Int} : oMul (.int i) (.int j) M = if CMulB i j then .ok (.int (i * j)) M else .stuck := rfl
@[simp] theorem oDiv_int {i j : Int} : oDiv (.int i) (.int j) M = if CDivW i j then .ok (.int (i / j)) M else .stuck := rfl
@[simp] theorem oMod_int {i j : Int} : oMod (.int i) (.int j) M = if 0 < j then .ok (.int (i % j)) M else .stuck := rfl
@[simp] theorem oPow_int {i j : Int} : oPow (.int i) (.int j) M = if CPow i j then .ok (.int (i ^ j.toNat)) M else .stuck := rfl
@[simp] theorem oNeg_int {i : Int} : oNeg (.int i) M = .ok (.int (-i)) M := rfl
@[simp] theorem oLt_int {i j : Int} : oLt (.int i) (.int j) M = .ok (.bl (decide (i < j))) M := rfl
@[simp] theorem oLe_int {i j : Int} : oLe (.int i) (.int j) M = .ok (.bl (decide (i ≤ j))) M := rfl
@[simp] theorem oGt_int {i j : Int} : oGt (.int i) (.int j) M = .ok (.bl (decide (j < i))) M := rfl
@[simp] theorem oGe_int {i j : Int} : oGe (.int i) (.int j) M = .ok (.bl (decide (j ≤ i))) M := rfl
@[simp] theorem oEq_int {i j : Int} : oEq (.int i) (.int j) M = .ok (.bl (i == j)) M := rfl
@[simp] theorem oNe_int {i j : Int} : oNe (.int i) (.int j) M = .ok (.bl (!(i == j))) M := rfl
@[simp] theorem oIs_non : oIs x .non M = .ok (.bl x.isN) M := rfl
@[simp] theorem oIsnt_non : oIsnt x .non M = .ok (.bl !x.isN) M := rfl
@[simp] theorem isN_int {i : Int} : (D.int i).isN = false := rfl
@[simp] theorem isN_non : D.non.isN = true := rfl
@[simp] theorem isN_tup {xs} : (D.tup xs).isN = false := rfl
def ixR (o : Option D) (M : List D) : R := match o with | some d => .ok d M | none => .stuck
@[simp] theorem ixR_some : ixR (some d) M = .ok d M := rfl
@[simp] theorem oIx_lst {xs} {i : Int} : oIx (.lst xs) (.int i) M = ixR (atI xs i) M := by
  unfold oIx view ixR; rfl
@[simp] theorem oIx_tup {xs} {i : Int} : oIx (.tup xs) (.int i) M = ixR (atI xs i) M := by
  unfold oIx view ixR; rfl
@[simp] theorem oIx_ktp {xs} {i : Int} : oIx (.ktp xs) (.int i) M = ixR (atI xs i) M := by
  unfold oIx view ixR; rfl
@[simp] theorem oIx_dKi {kvs} {i : Int} : oIx (.dK kvs) (.int i) M = ixR (valK kvs (.inl i)) M := by
  unfold oIx view ixR keyD; rfl
@[simp] theorem oIx_dKs {kvs} {z : Str} : oIx (.dK kvs) (.str z) M = ixR (valK kvs (.inr z)) M := by
  unfold oIx view ixR keyD; rfl
theorem oIx_scr {ns : List Int} {i v : Int} (h : atI ns i = some v) : oIx (.scr ns) (.int i) M = .ok (.int v) M := by
  show (match atI ns i with | some d => R.ok (D.int d) M | none => R.stuck) = _
  rw [h]
theorem oIx_celL {xs} {i : Int} (h : M[n]? = some (.lst xs)) : oIx (.cel n) (.int i) M = ixR (atI xs i) M := by
  have e : view M (.cel n) = .lst xs := by show (M[n]?).getD (.cel n) = _; rw [h]; rfl
  unfold oIx; rw [e]; rfl
@[simp] theorem bInt_int {i : Int} : bInt [.int i] M = .ok (.int i) M := rfl
@[simp] theorem bAbs_int {i : Int} : bAbs [.int i] M = .ok (.int (if i < 0 then -i else i)) M := rfl
@[simp] theorem bMax_int {i j : Int} : bMax [.int i, .int j] M = .ok (.int (mx2 i j)) M := rfl
@[simp] theorem bMin_int {i j : Int} : bMin [.int i, .int j] M = .ok (.int (mn2 i j)) M := rfl
@[simp] theorem bLen_lst {xs} : bLen [.lst xs] M = .ok (.int xs.length) M := rfl
@[simp] theorem bLen_tup {xs} : bLen [.tup xs] M = .ok (.int xs.length) M := rfl
@[simp] theorem bLen_ktp {xs} : bLen [.ktp xs] M = .ok (.int xs.length) M := rfl
@[simp] theorem bLen_scr {xs : List Int} : bLen [.scr xs] M = .ok (.int xs.length) M := rfl
@[simp] theorem bTup_lst {xs} : bTup [.lst xs] M = .ok (.tup xs) M := rfl
@[simp] theorem bTup_tup {xs} : bTup [.tup xs] M = .ok (.tup xs) M := rfl
@[simp] theorem store_own {u d d'} (h : env[i]? = some (.own d)) (hu : u d = some d') : store i u env M = .next (env.set i (.own d')) M := by
  unfold store; rw [h]; dsimp only; rw [hu]
theorem store_cel {u d d'} (h : env[i]? = some (.shr (.cel n))) (hm : M[n]? = some d) (hu : u d = some d') : store i u env M = .next env (M.set n d') := by
  unfold store; rw [h]; dsimp only; rw [hm]; dsimp only; rw [hu]
def guS (b : Bool) (r : RS) : RS := if b = true then r else .stuck
@[simp] theorem guS_true {r} : guS true r = r := rfl
@[simp] theorem bSub_eq : bSub i fk fv env M = (fv env M).bindS env fun dv M1 => guS (has i env) ((fk env M1).bindS env fun dk M2 => store i (stSub dk dv) env M2) := rfl
@[simp] theorem bApp_eq : bApp i fv env M = guS (isLst (cont i env M)) ((fv env M).bindS env fun dv M1 => store i (stApp dv) env M1) := rfl
@[simp] theorem bFld_eq {c g} : bFld i c g fv env M = (fv env M).bindS env fun dv M1 => store i (stFld c g dv) env M1 := rfl
def forR (gd : D → EnvM → Option EnvM) (b : SF) (env : EnvM) (r : RL) : RS := match r with
  | .ok ds M1 => forL gd b ds env M1
  | .exc x M1 => .exc x env M1
  | .stuck => .stuck
@[simp] theorem forR_ok {gd b ds} : forR gd b env (.ok ds M) = forL gd b ds env M := rfl
@[simp] theorem bFor_eq {gd b} : bFor l gd b env M = forR gd b env (l env M) := by unfold bFor forR; split <;> simp_all
@[simp] theorem forL_nil {gd b} : forL gd b [] env M = .next env M := rfl
def forK (gd : D → EnvM → Option EnvM) (b : SF) (ds : List D) (r : RS) : RS := match r with
  | .next env2 M2 => forL gd b ds env2 M2
  | .cont env2 M2 => forL gd b ds env2 M2
  | .brk env2 M2 => .next env2 M2
  | r => r
@[simp] theorem forK_next {gd b ds} : forK gd b ds (.next env M) = forL gd b ds env M := rfl
@[simp] theorem forK_ret {gd b ds} : forK gd b ds (.ret d M) = .ret d M := rfl
theorem forL_cons {gd b d ds env1} (h : gd d env = some env1) : forL gd b (d :: ds) env M = forK gd b ds (b env1 M) := by
  show (match gd d env with | none => RS.stuck | some env1 => _) = _
  rw [h]
  show (match b env1 M with | .next env2 M2 => forL gd b ds env2 M2 | .cont env2 M2 => forL gd b ds env2 M2 | .brk env2 M2 => .next env2 M2 | r => r) = _
  unfold forK; split <;> simp_all
theorem forL_inv {gd : D → EnvM → Option EnvM} {b : SF} {ds : List D} (I : Nat → EnvM → List D → Prop) (hs : ∀ i d env M, ds[i]? = some d → I i env M → ∃ env1, gd d env = some env1 ∧ ∃ env2 M2, b env1 M = .next env2 M2 ∧ I (i + 1) env2 M2) {env : EnvM} {M : List D} (h0 : I 0 env M) :
    ∃ env2 M2, forL gd b ds env M = .next env2 M2 ∧ I ds.length env2 M2 := by
  have key : ∀ (k i : Nat) (env : EnvM) (M : List D), i + k = ds.length → I i env M → ∃ env2 M2, forL gd b (ds.drop i) env M = .next env2 M2 ∧ I ds.length env2 M2 := by
    intro k
    induction k with
    | zero => intro i env M hk h; have : i = ds.length := by omega
              subst this; exact ⟨env, M, by rw [List.drop_length]; rfl, h⟩
    | succ k ih =>
      intro i env M hk h
      have hlt : i < ds.length := by omega
      obtain ⟨env1, h1, env2, M2, h2, h3⟩ := hs i ds[i] env M (List.getElem?_eq_getElem hlt) h
      obtain ⟨env3, M3, h4, h5⟩ := ih (i + 1) env2 M2 (by omega) h3
      refine ⟨env3, M3, ?_, h5⟩
      rw [List.drop_eq_getElem_cons hlt, forL_cons h1, h2]
      exact h4
  simpa using key ds.length 0 env M (by omega) h0
theorem comp_inv {gd : D → EnvM → Option EnvM} {ft fe : EF} {env0 : EnvM} {ds : List D} (I : Nat → List D → List D → Prop) (hs : ∀ i d acc M, ds[i]? = some d → I i acc M → ∃ env1, gd d env0 = some env1 ∧
      ((∃ M1 y M2, ft env1 M = .ok (.bl true) M1 ∧ fe env1 M1 = .ok y M2 ∧ acc.length < sizeLine ∧ I (i + 1) (acc ++ [y]) M2) ∨ (∃ M1, ft env1 M = .ok (.bl false) M1 ∧ I (i + 1) acc M1))) {M : List D} (h0 : I 0 [] M) :
    ∃ acc M2, compL gd ft fe env0 ds [] M = .ok (.lst acc) M2 ∧ I ds.length acc M2 := by
  have key : ∀ (k i : Nat) (acc M : List D), i + k = ds.length → I i acc M → ∃ acc2 M2, compL gd ft fe env0 (ds.drop i) acc M = .ok (.lst acc2) M2 ∧ I ds.length acc2 M2 := by
    intro k
    induction k with
    | zero => intro i acc M hk h; have : i = ds.length := by omega
              subst this; exact ⟨acc, M, by rw [List.drop_length]; rfl, h⟩
    | succ k ih =>
      intro i acc M hk h
      have hlt : i < ds.length := by omega
      obtain ⟨env1, h1, h2⟩ := hs i ds[i] acc M (List.getElem?_eq_getElem hlt) h
      rw [List.drop_eq_getElem_cons hlt]
      rcases h2 with ⟨M1, y, M2, h2, h3, h4, h5⟩ | ⟨M1, h2, h3⟩
      · obtain ⟨acc2, M3, g1, g2⟩ := ih (i + 1) (acc ++ [y]) M2 (by omega) h5
        exact ⟨acc2, M3, by unfold compL; rw [h1]; dsimp only; rw [h2]; dsimp only; rw [h3]; dsimp only; rw [if_pos h4]; exact g1, g2⟩
      · obtain ⟨acc2, M3, g1, g2⟩ := ih (i + 1) acc M1 (by omega) h3
        exact ⟨acc2, M3, by unfold compL; rw [h1]; dsimp only; rw [h2]; dsimp only; exact g1, g2⟩
  simpa using key ds.length 0 [] M (by omega) h0
@[simp] theorem eComp_eq {gd ft fe vs} : eComp l gd ft fe vs env M = (l env M).bind fun ds M1 => compL gd ft fe (wipeE env vs) ds [] M1 := rfl
@[simp] theorem wipeE_nil : wipeE env [] = env := rfl
@[simp] theorem wipeE_cons {v vs} : wipeE env (v :: vs) = (wipeE env vs).set v .no := rfl
def seqL (d : D) (M : List D) : RL := match d with
  | .lst xs => .ok xs M
  | .tup xs => .ok xs M
  | .ktp xs => .ok xs M
  | .scr ns => .ok (ns.map .int) M
  | .dT kvs => .ok (keysT kvs) M
  | .dK kvs => .ok (keysK kvs) M
  | _ => .stuck
@[simp] theorem seqL_lst {xs} : seqL (.lst xs) M = .ok xs M := rfl
@[simp] theorem seqL_tup {xs} : seqL (.tup xs) M = .ok xs M := rfl
@[simp] theorem seqL_ktp {xs} : seqL (.ktp xs) M = .ok xs M := rfl
@[simp] theorem seqL_scr {xs} : seqL (.scr xs) M = .ok (xs.map .int) M := rfl
@[simp] theorem seqL_dT {xs} : seqL (.dT xs) M = .ok (keysT xs) M := rfl
@[simp] theorem seqL_dK {xs} : seqL (.dK xs) M = .ok (keysK xs) M := rfl
@[simp] theorem iSeq_eq : iSeq f env M = (f env M).bindL seqL := rfl
def seqLB (d : D) (M : List D) : RL := match d with
  | .lst xs => .ok xs M
  | .tup xs => .ok xs M
  | .ktp xs => .ok xs M
  | .scr ns => .ok (ns.map .int) M
  | _ => .stuck
@[simp] theorem seqLB_lst {xs} : seqLB (.lst xs) M = .ok xs M := rfl
@[simp] theorem iSeqB_eq : iSeqB f env M = (f env M).bindL seqLB := rfl
def itmL (d : D) (M : List D) : RL := match d with
  | .dT kvs => .ok (itemsT kvs) M
  | .dK kvs => .ok (itemsK kvs) M
  | _ => .stuck
@[simp] theorem itmL_dT {xs} : itmL (.dT xs) M = .ok (itemsT xs) M := rfl
@[simp] theorem itmL_dK {xs} : itmL (.dK xs) M = .ok (itemsK xs) M := rfl
@[simp] theorem iItm_eq : iItm f env M = (f env M).bindL itmL := rfl
def enuL (d : D) (M : List D) : RL := match d with
  | .lst xs => .ok (enumD xs) M
  | .tup xs => .ok (enumD xs) M
  | .ktp xs => .ok (enumD xs) M
  | _ => .stuck
@[simp] theorem enuL_lst {xs} : enuL (.lst xs) M = .ok (enumD xs) M := rfl
@[simp] theorem enuL_tup {xs} : enuL (.tup xs) M = .ok (enumD xs) M := rfl
@[simp] theorem iEnu_eq : iEnu f env M = (f env M).bindL enuL := rfl
def rngL1 (d : D) (M : List D) : RL := match d with
  | .int j => if inR j then .ok (rngD 0 j.toNat) M else .stuck
  | _ => .stuck
@[simp] theorem rngL1_int {j : Int} (h : inR j) : rngL1 (.int j) M = .ok (rngD 0 j.toNat) M := by unfold rngL1; dsimp only; rw [if_pos h]
@[simp] theorem iRng1_eq : iRng1 f env M = (f env M).bindL rngL1 := by cases M <;> rfl
def rngL2 (d d2 : D) (M : List D) : RL := match d, d2 with
  | .int i, .int j => if inR i ∧ inR j then .ok (rngD i (j - i).toNat) M else .stuck
  | _, _ => .stuck
@[simp] theorem rngL2_int {i j : Int} (h : inR i) (h2 : inR j) : rngL2 (.int i) (.int j) M = .ok (rngD i (j - i).toNat) M := by unfold rngL2; dsimp only; rw [if_pos ⟨h, h2⟩]
@[simp] theorem iRng2_eq : iRng2 f g env M = (f env M).bindL fun d M1 => (g env M1).bindL fun d2 M2 => rngL2 d d2 M2 := by cases M <;> rfl
theorem rngD_get {lo : Int} {n i : Nat} (h : i < n) : (rngD lo n)[i]? = some (.int (lo + (i : Nat))) := by simp [rngD, h]
@[simp] theorem rngD_len {lo : Int} {n : Nat} : (rngD lo n).length = n := by simp [rngD]
theorem rngD_of {lo : Int} {n i : Nat} {d : D} (h : (rngD lo n)[i]? = some d) : i < n ∧ d = .int (lo + (i : Nat)) := by
  have hi : i < n := by
    have := (List.getElem?_eq_some_iff.mp h).1
    simpa using this
  rw [rngD_get hi] at h
  exact ⟨hi, (Option.some.inj h).symm⟩
def methR (cn m : Str) (d : D) (r : R) : R := match d with
  | .ins c' fs => if c' = cn ∧ fs.lookup m = none then r else .stuck
  | _ => .stuck
@[simp] theorem eMeth_eq {cn m c n dd} : eMeth cn m c n dd f l env M = (f env M).bind fun x M1 => methR cn m (view M1 x) ((l env M1).bind fun xs M2 => apC c n dd (x :: xs) M2) := by
  unfold eMeth
  refine iteR_fun fun x M1 => ?_
  unfold methR; split <;> simp_all
@[simp] theorem view_ins {c fs} : view M (.ins c fs) = .ins c fs := rfl
@[simp] theorem oIsi_int {k : D → Option Bool} {i : Int} : oIsi k (.int i) M = (match k (.int i) with | some b => .ok (.bl b) M | none => .stuck) := rfl
@[simp] theorem oIsi_non {k : D → Option Bool} : oIsi k .non M = (match k .non with | some b => .ok (.bl b) M | none => .stuck) := rfl
@[simp] theorem oIsi_tup {k : D → Option Bool} {xs} : oIsi k (.tup xs) M = (match k (.tup xs) with | some b => .ok (.bl b) M | none => .stuck) := rfl
@[simp] theorem endE_ret : endE (.ret d M) = .ok d M := rfl
@[simp] theorem endE_next : endE (.next env M) = .ok .non M := rfl
end
theorem inR_of {i : Int} (h1 : -1000000000 ≤ i) (h2 : i ≤ 1000000000) : inR i := Nat.div_eq_of_lt (by omega)
theorem cmul_r {i j : Int} (h : -1000000000000000000 ≤ j ∧ j ≤ 1000000000000000000) : CMulB i j := .inr (Nat.div_eq_of_lt (by omega))
theorem cmul_l {i j : Int} (h : -1000000000000000000 ≤ i ∧ i ≤ 1000000000000000000) : CMulB i j := .inl (Nat.div_eq_of_lt (by omega))
theorem cdiv_s {i j : Int} (h : 0 < j) (h2 : j < 2 ^ 200) : CDivW i j := by
  refine ⟨h, ?_⟩
  have e : j.natAbs < 2 ^ 200 := by omega
  by_cases z : j.natAbs = 0
  · rw [z]; decide
  · have := (Nat.log2_lt z).mpr e
    omega
theorem bools_map : ∀ ns : List Bool, boolsOf (ns.map D.bl) = some ns
  | [] => rfl
  | n :: ns => by simp [boolsOf, bools_map ns]
theorem bAll_bools {ns : List Bool} {M : List D} : bAll [.lst (ns.map D.bl)] M = .ok (.bl (ns.all id)) M := by
  show (match boolsOf (ns.map D.bl) with | some bs => R.ok (D.bl (bs.all id)) M | _ => .stuck) = _
  rw [bools_map]
end MP
set_option maxRecDepth 100000
set_option maxHeartbeats 4000000
namespace MP
open PySem PySem.Spec PyProof.Rows L2
variable [TabsP] [ThkP]
theorem mul_once (l : Addr) (items : Array Value) (n : Nat) (dd : Option Addr) (sl : Array (Option Value)) (u : Tok) :
    Meets (Builtin.«tuple.__mul__» ⟨[.ref l, .int 1 u], []⟩) (fun _ R s => s.heap.get? l = some { cls := .type "tuple", dict := dd, data := .seq items n, slots := sl } ∧ R (.ok (.ret (Value.ref l))) s) :=
  .of_wp fun prog w A R s h => by
    obtain ⟨hp, g, d, tk, os⟩ := s
    obtain ⟨hl, hr⟩ := h
    have f1 := AutoSeq1.idx_int
    have c0 : (decide ((1 : Int) < -(2 ^ 63)) || decide ((1 : Int) ≥ 2 ^ 63)) = false := by decide
    have c1 : (items.isEmpty || (1 : Int) == 1) = true := by cases items.isEmpty <;> rfl
    wp_walk using wpAny_loadPart' hl
    repeat (first
      | (refine wpAny_ite_false (decide_eq_false (by rw [c0]; exact Bool.false_ne_true)) ?_; wp_walk using wpAny_loadPart' hl)
      | (refine wpAny_ite_true (decide_eq_true c1) ?_; wp_walk using wpAny_loadPart' hl))
    exact ⟨_, rfl, hr⟩
theorem op_rep1 {X : Cx} : OpR X (binaryOp .Mult) (fun x y H Q => ∃ l xs, x = .ref l ∧ y = .int 1 ∧ SqT X.K H l xs ∧ Q (.ref l) H) := by
  intro pins s σ H x y v u Q I rx ry h
  obtain ⟨l, xs, rfl, rfl, hT, q⟩ := h
  cases rx
  obtain ⟨t, rfl⟩ := ry
  obtain ⟨its, r, ⟨⟨cls, dd, data, sl⟩, ho, hc, n, hd⟩, hs⟩ := I.tuple hT
  simp only at hc hd
  subst hc hd
  exact wpAny_binaryOp_repeat_ref (T := "tuple") (U := "int") (by decide) ⟨_, ho, rfl⟩ (fun s' => typeIs_int s' 1 t) noFill_tuple_mul F.fills_int_mul F.slot_int_rmul repeat_tuple F.slot_int_index.lookup
    (call_meets F.slot_int_rmul (typeIs_int s 1 t) F.entry_int_rmul (F.args_int_rmul_2 _ _) (int_rmul_tuple 1 t l its.toArray n dd sl)
      ⟨ho, rfl, ⟨_, ho, rfl⟩, call_meets F.slot_tuple_mul ⟨_, ho, rfl⟩ F.entry_tuple_mul (F.args_tuple_mul_2 _ _) (mul_once l its.toArray n dd sl t) ⟨ho, ⟨.ref l, H, I, rfl, q⟩⟩⟩)
instance neDec {xs : List D} : Decidable (xs ≠ []) := match xs with
  | [] => isFalse (by simp)
  | _ :: _ => isTrue (by simp)
def repD (k : Nat) (xs : List D) : List D := (List.replicate k xs).flatten
def oMulT (x y : D) (M : List D) : R := match view M x, view M y with
  | .tup xs, .int k => if xs ≠ [] ∧ 1 ≤ k ∧ k ≤ 1000 ∧ xs.length ≤ 1000 then .ok (.tup (repD k.toNat xs)) M else .stuck
  | _, _ => .stuck
section
variable {X : Cx} {W : WX} {K : PySem.W.Frag} {E : Ends} {DR : DRel} {N0 : Ent} {F H : Hp} {Ad : List Addr} {M : List D} {env : EnvM} {σ : St} {Q : VK} {x : V} {e c : Expr} {f : EF} {b : SF} {body : List Stmt} {pos p pc : Pos}
theorem DenL.rep {vs ds} (h : DenL K F Ad vs ds) : ∀ k, DenL K F Ad (List.replicate k vs).flatten (repD k ds)
  | 0 => .nil
  | k + 1 => by
    unfold repD
    rw [List.replicate_succ, List.replicate_succ, List.flatten_cons, List.flatten_cons]
    exact h.append (DenL.rep h k)
theorem op2_mulT : Op2 X (DE X.K) (binaryOp .Mult) oMulT := by
  intro pins s σ H F Ad M E x y v u dx dy Q I m rx ry hx hy r
  have ax := DB.view m hx
  have ay := DB.view m hy
  unfold oMulT at r
  revert r ax ay
  generalize view M dx = ex
  generalize view M dy = ey
  intro r ax ay
  split at r
  · rename_i xs k
    split at r
    · rename_i hc
      obtain ⟨h0, h1, h2, h3⟩ := hc
      have dn := ax.den (fun _ h => nomatch h)
      obtain ⟨a, vs, rfl, g1, g2⟩ := ax.tup m
      by_cases hk : k = 1
      · subst hk
        have e1 : repD (1 : Int).toNat xs = xs := by simp [repD]
        rw [e1] at r
        exact op_rep1 pins s σ H _ y v u Q I rx ry ⟨a, vs, rfl, ay.int, g1, RP.here r m dn⟩
      · have hv : vs ≠ [] := fun e => h0 (List.length_eq_zero_iff.mp (by rw [← g2.length, e]; rfl))
        exact op_repT pins s σ H _ y v u Q I rx ry ⟨a, k, vs, rfl, ay.int, g1, hv, by omega, h2, by rw [g2.length]; exact h3, fun p hp => RP.newTup r m (g2.rep _) hp⟩
    · exact r.elim
  · exact r.elim
def whL (f : EF) (b : SF) : Nat → SF
  | 0, _, _ => .stuck
  | n + 1, env, M => (f env M).bindS env fun d M1 => match d with
    | .bl true => (match b env M1 with
      | .next env2 M2 => whL f b n env2 M2
      | .cont env2 M2 => whL f b n env2 M2
      | .brk env2 M2 => .next env2 M2
      | r => r)
    | .bl false => .next env M1
    | _ => .stuck
theorem pe_own {y : Str} {a : Addr} (hm : X.mg y = some (.ref a)) (hg : Gl X y := by rfl) (hd : (y == ("__debug__" : Str)) = false := by decide) : PE X (.Name y pos) (fun _ H Q => Q (.ref a) H) :=
  pe_glob (v := .ref a) hg hm rfl hd
end
section
variable {f : EF} {b : SF} {n : Nat} {env : EnvM} {M : List D}
def whK (f : EF) (b : SF) (n : Nat) (r : RS) : RS := match r with
  | .next env2 M2 => whL f b n env2 M2
  | .cont env2 M2 => whL f b n env2 M2
  | .brk env2 M2 => .next env2 M2
  | r => r
@[simp] theorem whK_next : whK f b n (.next env M) = whL f b n env M := rfl
end
end MP
set_option maxRecDepth 100000
set_option maxHeartbeats 4000000
namespace MP
open PySem PySem.Spec PyProof.Rows L2
variable [TabsP] [ThkP]
def pickL {α : Type} (ix : List Nat) (l : List α) : List α := ix.filterMap (l[·]?)
theorem vals_pick {vs : List V} {us : List Value} (r : Vals vs us) : ∀ ix : List Nat, Vals (pickL ix vs) (pickL ix us)
  | [] => .nil
  | i :: ix => by
    have t := vals_pick r ix
    unfold pickL at t ⊢
    rw [List.filterMap_cons, List.filterMap_cons]
    cases h : vs[i]? with
    | some v =>
      obtain ⟨u, hu, ru⟩ := r.get h
      rw [hu]
      exact .cons ru t
    | none =>
      have : us[i]? = none := by rw [List.getElem?_eq_none_iff] at h ⊢; rw [← r.length]; exact h
      rw [this]; exact t
theorem denL_pick {K : PySem.W.Frag} {F : Hp} {Ad : List Addr} {vs : List V} {ds : List D} (r : DenL K F Ad vs ds) : ∀ ix : List Nat, DenL K F Ad (pickL ix vs) (pickL ix ds)
  | [] => .nil
  | i :: ix => by
    have t := denL_pick r ix
    unfold pickL at t ⊢
    rw [List.filterMap_cons, List.filterMap_cons]
    cases h : ds[i]? with
    | some d =>
      obtain ⟨v, hv, rv⟩ := r.get h
      rw [hv]
      exact .cons rv t
    | none =>
      have : vs[i]? = none := by rw [List.getElem?_eq_none_iff] at h ⊢; rw [r.length]; exact h
      rw [this]; exact t
structure FnQ (P : Program) (w : World) (K : PySem.W.Frag) (mg : Str → Option Value) (base : Heap) (DR : DRel) (k n np : Nat) (ks : List Str) (ix : List Nat) (g : Addr) (dd : List D) (c : List D → List D → R) : Prop where
  ex : ∃ (fd : FuncData) (ps : List Str) (dvs : List V) (dds : List Value), MP.FnOk P w K mg base (L2.CX P w) k g fd ps (spD K DR n c) ∧
    (∀ (s : Shared) (us ws : List Value), K.In s.heap → us.length = np → ws.length = ks.length → BindsTo s fd ⟨us, ks.zip ws⟩ (ps.zip (pickL ix (us ++ ws ++ dds)))) ∧ Vals dvs dds ∧ (∀ F Ad, DenL K F Ad dvs dd) ∧ PySem.W.keepIn K (.ref g) = true
theorem fnq_of {P : Program} {w : World} {K : PySem.W.Frag} {mg : Str → Option Value} {base : Heap} {DR : DRel} {k n np : Nat} {ks ps : List Str} {ix : List Nat} {g : Addr} {c : List D → List D → R} {x qual : Str} {params : Arguments} {body : List Stmt} {scope : Scope} {kws : List (Str × V)} {fd : FuncData}
    (Fd : FunD K x qual params body scope [] kws g fd) (Fo : MP.FnOk P w K mg base (L2.CX P w) k g fd ps (spD K DR n c))
    (h : ∀ (kV doc pm : Value) (an : Option Addr) (cdv ct : Value) (us ws : List Value), us.length = np → ws.length = ks.length → bindArgs (PySem.W.fnOf x qual params body scope .none kV doc pm an cdv ct) ⟨us, ks.zip ws⟩ = pure (ps.zip (pickL ix (us ++ ws)))) :
    FnQ P w K mg base DR k n np ks ix g [] c := by
  have kp := Fd.kp
  obtain ⟨oc, od, dV, kV, doc, pm, an, cdv, ct, osl, rfl, lk, hcd, hD, hK⟩ := Fd.ex
  rcases hD with ⟨_, rfl⟩ | ⟨e, _⟩
  · exact ⟨_, ps, [], [], Fo, fun s us ws _ h1 h2 => by rw [List.append_nil]; exact .of_eq (h kV doc pm an cdv ct us ws h1 h2), .nil, fun _ _ => .nil, kp⟩
  · exact absurd rfl e
def apQ (c : List D → List D → R) (n np nk : Nat) (ix : List Nat) (dd xs ys M : List D) : R := if xs.length = np ∧ ys.length = nk ∧ (pickL ix (xs ++ ys ++ dd)).length = n then c (pickL ix (xs ++ ys ++ dd)) M else .stuck
def eCallQ (c : List D → List D → R) (n np nk : Nat) (ix : List Nat) (dd : List D) (l1 l2 : LF) : EF := fun env M => (l1 env M).bind fun xs M1 => (l2 env M1).bind fun ys M2 => apQ c n np nk ix dd xs ys M2
section
variable {X : Cx} {W : WX} {DR : DRel} {N0 : Ent} {F H : Hp} {Ad : List Addr} {M : List D} {env : EnvM} {σ : St} {Q : VK} {k n np : Nat} {ks : List Str} {ix : List Nat} {g : Addr} {dd : List D} {c : List D → List D → R} {es : List Expr} {e : Expr} {l l1 l2 : LF} {f : EF} {y m : Str} {p pos kpos : Pos} {kws : List Keyword} {nm : Option Str}
abbrev SK (X : Cx) (W : WX) (kws : List Keyword) (f : LF) : Prop := PK X kws (tL X.K W (DLE X.K) f)
theorem PK.imp {t t' : TA} (h : PK X kws t) (i : ∀ σ H Q, t' σ H Q → t σ H Q) : PK X kws t' := ⟨fun pos pins s σ H Q I q => h.run pos pins s σ H Q I (i σ H Q q)⟩
theorem run_fnQ {pins : List (Addr × Obj)} {s : Shared} {us ws : List Value} {vs zs : List V} {ds es : List D} (Fk : FnQ X.prog X.w X.K X.mg X.base DR k n np ks ix g dd c) (hr : MP.Room k X.A) (hx : Pas X W) (I : Inv X pins σ H s) (mm : MemOk X.K F Ad M H)
    (r : Vals vs us) (x : DenL X.K F Ad vs ds) (r2 : Vals zs ws) (x2 : DenL X.K F Ad zs es)
    (h : RP X.K (fun c d H => W c d σ H) DR F Ad H Q (apQ c n np ks.length ix dd ds es M)) : wpAny (model X.prog X.w) X.A (call (.ref g) us (ks.zip ws)) (EP X pins σ Q) X.xe s := by
  obtain ⟨fd, ps, dvs, dds, Fo, hb, hv, hd, hk⟩ := Fk.ex
  unfold apQ at h
  split at h
  · rename_i hn
    obtain ⟨h1, h2, h3⟩ := hn
    have xx := denL_pick ((x.append x2).append (hd F Ad)) ix
    have rr := vals_pick ((r.append r2).append hv) ix
    refine run_any Fo hr (hx σ) I (fun _ => hb s us ws I.kIn (by rw [← r.length, x.length, h1]) (by rw [← r2.length, x2.length, h2])) rr ⟨by rw [xx.length]; exact h3, F, Ad, M, _, mm, xx, h⟩
  · exact h.elim
theorem sk_nil : SK X W [] lNil := PK.imp pk_nil fun σ H Q ⟨N0, F, Ad, M, env, m, en, r⟩ => r [] F Ad H Gr.refl m .nil
theorem sk_cons (ha : SE X W e f) (hr : SK X W kws l) : SK X W (⟨nm, e, kpos⟩ :: kws) (lCons f l) :=
  PK.imp (pk_cons ha hr) fun σ H Q ⟨N0, F, Ad, M, env, m, en, r⟩ => tG_seqL m en r fun d M1 v F1 Ad1 H1 g1 m1 en1 x1 r1 => tL_seqL m1 en1 r1 fun ds M2 vs F2 Ad2 H2 g2 m2 en2 x2 r2 =>
    r2 (v :: vs) F2 Ad2 H2 Gr.refl m2 (.cons (x1.mono g2.fle g2.pre) x2)
theorem s_callQ0 (dr : DRok DR) (Fk : FnQ X.prog X.w X.K X.mg X.base DR k n np ks ix g dd c) (hr : MP.Room k X.A) (hx : Pas X W) (hg : Gl X y) (hm : X.mg y = some (.ref g)) (hkw : SK X W kws l2)
    (hall : (backToKw pos (keywordEach kws X.env)).all (·.1.isSome) = true := by rfl) (hks : (backToKw pos (keywordEach kws X.env)).filterMap (·.1) = ks := by rfl)
    (hdb : (y == ("__debug__" : Str)) = false := by decide)
    (hpl : ((backTo pos (starEach [] X.env)).any (·.1) || (backToKw pos (keywordEach kws X.env)).any (·.1.isNone)) = false := by rfl) :
    PE X (.Call (.Name y p) [] kws pos) (tG X.K W DR (eCallQ c n np ks.length ix dd lNil l2)) := by
  have hk := Fk.ex.choose_spec.choose_spec.choose_spec.choose_spec.2.2.2.2
  refine ⟨fun pins s σ H Q I ⟨N0, F, Ad, M, env, m, en, r⟩ => ?_⟩
  refine wpAny_Call_Name_kw (ld_glob I hg hm ?_ hdb)
  refine PySem.W.callWith_KW0 (h₀ := X.base) I.ok.mod.kin hk hall (thn (hkw.run pos pins s σ H _ I (tL_seq (Q' := fun zs H2 => ∃ F2 Ad2 M2 es, MemOk X.K F2 Ad2 M2 H2 ∧ DenL X.K F2 Ad2 zs es ∧ RP X.K (fun c d H => W c d σ H) DR F2 Ad2 H2 Q (apQ c n np ks.length ix dd [] es M2)) (k := fun ys M2 => apQ c n np ks.length ix dd [] ys M2) dr m en r fun es M2 zs F2 Ad2 H2 g2 m2 en2 x2 r2 => ⟨F2, Ad2, M2, es, m2, x2, r2⟩))
    fun ws s2 ⟨zs, H2, I2, rz, F2, Ad2, M2, es, m2, x2, r2⟩ => ⟨I2.kIn, ?_⟩) hpl
  rw [hks]
  exact run_fnQ (vs := []) (ds := []) Fk hr hx I2 m2 .nil .nil rz x2 r2
end
end MP
set_option maxRecDepth 100000
set_option maxHeartbeats 4000000
namespace MP
open PySem PySem.Spec PyProof.Rows L2
variable [TabsP] [ThkP]
mutual
def toPy : D → Option PyData
  | .non => some .none
  | .bl b => some (.bool b)
  | .int i => some (.int i)
  | .str s => some (.str s)
  | .tup xs => match toPyL xs with | some ps => some (.tuple ps) | none => none
  | .ktp xs => match toPyL xs with | some ps => some (.tuple ps) | none => none
  | .lst xs => match toPyL xs with | some ps => some (.list ps) | none => none
  | _ => none
def toPyL : List D → Option (List PyData)
  | [] => some []
  | d :: ds => match toPy d, toPyL ds with | some p, some ps => some (p :: ps) | _, _ => none
end
mutual
def rsz : PyData → Nat
  | .none => 4 | .bool _ => 5 | .int _ => 1921 | .str x => (reprText x).length
  | .list xs => rszL xs + 2 * xs.length + 3
  | .tuple xs => rszL xs + 2 * xs.length + 3
  | .dict _ => 0
def rszL : List PyData → Nat
  | [] => 0
  | x :: xs => rsz x + rszL xs
end
section
variable {X : Cx} {K : PySem.W.Frag} {F H : Hp} {Ad : List Addr} {M : List D} {σ : St} {pins : List (Addr × Obj)} {s : Shared}
mutual
theorem reads_of (I : Inv X pins σ H s) (m : MemOk X.K F Ad M H) : ∀ (d : D) {v : V} {u : Value} {p : PyData}, Den X.K F Ad v d → RelV v u → toPy d = some p → ∃ as, Reads s.heap u p as
  | .non, _, u, p, .non, r, e => by cases e; obtain rfl : u = Value.none := r; exact ⟨_, .none⟩
  | .bl b, _, u, p, .bl, r, e => by cases e; obtain rfl : u = Value.bool b := r; exact ⟨_, .bool b⟩
  | .int i, _, u, p, .int, r, e => by cases e; obtain ⟨t, rfl⟩ := (show ∃ t, u = Value.int i t from r); exact ⟨_, .int i t⟩
  | .str x, _, u, p, .str, r, e => by cases e; obtain ⟨t, rfl⟩ := (show ∃ t, u = Value.str x t from r); exact ⟨_, .str x t⟩
  | .tup xs, _, u, p, .tup (a := a) h d1, r, e => by
    obtain rfl : u = Value.ref a := r
    unfold toPy at e
    split at e
    · rename_i ps ep; cases e
      obtain ⟨its, rv, ⟨o, ho, hc, n, hd⟩, _⟩ := I.tuple (sqT_sub m h.sq)
      obtain ⟨as, ra⟩ := readsL_of I m xs d1 rv ep
      exact ⟨_, .tuple ho hc hd (by simpa using ra)⟩
    · cases e
  | .ktp xs, _, u, p, .ktp (a := a) h d1, r, e => by
    obtain rfl : u = Value.ref a := r
    unfold toPy at e
    split at e
    · rename_i ps ep; cases e
      obtain ⟨its, rv, ⟨o, ho, hc, n, hd⟩, _⟩ := I.tuple (sqT_sub m h)
      obtain ⟨as, ra⟩ := readsL_of I m xs d1 rv ep
      exact ⟨_, .tuple ho hc hd (by simpa using ra)⟩
    · cases e
  | .lst xs, _, u, p, .lst (a := a) h d1, r, e => by
    obtain rfl : u = Value.ref a := r
    unfold toPy at e
    split at e
    · rename_i ps ep; cases e
      obtain ⟨its, n, rv, ho, _⟩ := I.lst (m.sub _ _ h)
      obtain ⟨as, ra⟩ := readsL_of I m xs d1 rv ep
      exact ⟨_, .list ho rfl rfl (by simpa using ra)⟩
    · cases e
theorem readsL_of (I : Inv X pins σ H s) (m : MemOk X.K F Ad M H) : ∀ (ds : List D) {vs : List V} {us : List Value} {ps : List PyData}, DenL X.K F Ad vs ds → Vals vs us → toPyL ds = some ps → ∃ as, ReadsAll s.heap us ps as
  | [], _, us, ps, .nil, r, e => by cases e; cases r; exact ⟨_, .nil⟩
  | d :: ds, _, us, ps, .cons h1 h2, r, e => by
    cases r with
    | cons r1 r2 =>
      unfold toPyL at e
      split at e
      · rename_i p ps e1 e2; cases e
        obtain ⟨a1, q1⟩ := reads_of I m d h1 r1 e1
        obtain ⟨a2, q2⟩ := readsL_of I m ds h2 r2 e2
        exact ⟨_, .cons q1 q2⟩
      · cases e
end
end
end MP
set_option maxRecDepth 100000
set_option maxHeartbeats 4000000
namespace MP
open PySem PySem.Spec PyProof.Rows L2
variable [TabsP] [ThkP]
mutual
theorem shown_rsz : ∀ p : PyData, p.showable = true → p.hasDict = false → p.shown.length ≤ rsz p
  | .none, _, _ => by decide
  | .bool b, _, _ => by cases b <;> decide
  | .int i, h, _ => by
    have h' : i.natAbs.log2 < 1920 := by simpa [PyData.showable] using h
    show (Str.ofString (toString i)).length ≤ 1921
    exact PyProof.Rows.int_text_len_1921 h'
  | .str x, _, _ => by show (reprText x).length ≤ _; exact Nat.le_refl _
  | .list xs, h, g => by
    have t := shownL_rsz xs (by simpa [PyData.showable] using h) (by simpa [PyData.hasDict] using g)
    have e := listText_len_le (PyData.shownAll xs)
    show (listText (PyData.shownAll xs)).length ≤ rszL xs + 2 * xs.length + 3
    omega
  | .tuple xs, h, g => by
    have t := shownL_rsz xs (by simpa [PyData.showable] using h) (by simpa [PyData.hasDict] using g)
    have e := tupleText_len_le (PyData.shownAll xs)
    show (tupleText (PyData.shownAll xs)).length ≤ rszL xs + 2 * xs.length + 3
    omega
  | .dict _, _, g => by simp [PyData.hasDict] at g
theorem shownL_rsz : ∀ xs : List PyData, PyData.showableAll xs = true → PyData.hasDictAll xs = false → ((PyData.shownAll xs).map (·.length)).sum ≤ rszL xs ∧ (PyData.shownAll xs).length = xs.length
  | [], _, _ => ⟨Nat.le_refl _, rfl⟩
  | x :: xs, h, g => by
    simp only [PyData.showableAll, Bool.and_eq_true] at h
    simp only [PyData.hasDictAll, Bool.or_eq_false_iff] at g
    have a := shown_rsz x h.1 g.1
    have b := shownL_rsz xs h.2 g.2
    show ((PyData.shown x :: PyData.shownAll xs).map (·.length)).sum ≤ rsz x + rszL xs ∧ (PyData.shown x :: PyData.shownAll xs).length = _
    simp only [List.map_cons, List.sum_cons, List.length_cons]
    omega
end
end MP
set_option maxRecDepth 100000
set_option maxHeartbeats 4000000
namespace MP
open PySem PySem.Spec PyProof.Rows L2
variable [TabsP] [ThkP]
section
variable {X : Cx} {K : PySem.W.Frag} {F H : Hp} {Ad : List Addr} {M : List D}
theorem denL_strs : ∀ ws : List Str, DenL K F Ad (ws.map V.str) (ws.map D.str)
  | [] => .nil
  | w :: ws => .cons .str (denL_strs ws)
theorem se_globT {W : WX} {x : Str} {ws : List Str} {pos : Pos} (hg : Gl X x) (hm : X.mg x = some (.ref (He.ga X.K x))) (h : strsB X.K x ws = true) (hd : (x == ("__debug__" : Str)) = false := by decide) : SE X W (.Name x pos) (eC (.ktp (ws.map D.str))) :=
  PE.imp (pe_glob (v := .ref (He.ga X.K x)) hg hm rfl hd) fun _ _ _ ⟨_, _, _, _, _, m, _, r⟩ => RP.here r m (.ktp (strsB_ok h) (denL_strs ws))
def strsD : List D → Option (List Str)
  | [] => some []
  | .str s :: r => (strsD r).map (s :: ·)
  | _ => none
theorem strsD_vals : ∀ {ds : List D} {vs : List V} {ws : List Str}, DenL K F Ad vs ds → strsD ds = some ws → vs = ws.map V.str
  | [], _, ws, .nil, e => by cases e; rfl
  | d :: ds, _, ws, .cons h1 h2, e => by
    cases d with
    | str s =>
      simp only [strsD, Option.map_eq_some_iff] at e
      obtain ⟨ws', e1, rfl⟩ := e
      cases h1
      rw [strsD_vals h2 e1]; rfl
    | _ => cases e
def oIn (x y : D) (M : List D) : R := match view M x, view M y with
  | .str z, .ktp xs => (match strsD xs with | some ws => .ok (.bl (ws.any fun w => w == z)) M | none => .stuck)
  | .str z, .tup xs => (match strsD xs with | some ws => .ok (.bl (ws.any fun w => w == z)) M | none => .stuck)
  | _, _ => .stuck
theorem strs_flat (ws : List Str) : (ws.map V.str).all flatV = true := by
  rw [List.all_eq_true]; intro x hx
  obtain ⟨w, _, rfl⟩ := List.mem_map.mp hx; rfl
theorem strs_in (ws : List Str) (z : Str) : inV (.str z) (ws.map V.str) = ws.any fun w => w == z := by
  unfold inV; rw [List.any_map]; congr 1
theorem op2_in : Op2 X (DE X.K) (compareOp .In) oIn := by
  intro pins s σ H F Ad M E x y v u dx dy Q I m rx ry hx hy r
  have ax := DB.view m hx
  have ay := DB.view m hy
  unfold oIn at r
  revert r ax ay
  generalize view M dx = ex
  generalize view M dy = ey
  intro r ax ay
  split at r
  · rename_i z xs
    split at r
    · rename_i ws e
      obtain ⟨q, ws', rfl, h2, d2⟩ := ay.ktp m
      have hv := strsD_vals d2 e
      subst hv
      refine op_in_seq pins s σ H _ _ v u Q I rx ry ⟨q, ws.map V.str, rfl, .inr h2, by rw [ax.str]; rfl, strs_flat ws, ?_⟩
      rw [ax.str, if_neg (by decide), strs_in]
      exact RP.here r m .bl
    · exact r.elim
  · rename_i z xs
    split at r
    · rename_i ws e
      obtain ⟨q, ws', rfl, h2, d2⟩ := ay.tup m
      have hv := strsD_vals d2 e
      subst hv
      refine op_in_seq pins s σ H _ _ v u Q I rx ry ⟨q, ws.map V.str, rfl, .inr (h2), by rw [ax.str]; rfl, strs_flat ws, ?_⟩
      rw [ax.str, if_neg (by decide), strs_in]
      exact RP.here r m .bl
    · exact r.elim
  · exact r.elim
end
end MP
set_option maxRecDepth 100000
set_option maxHeartbeats 4000000
namespace MP
open PySem PySem.Spec PyProof.Rows L2
variable [TabsP] [ThkP]
structure InQ (P : Program) (w : World) (K : PySem.W.Frag) (mg : Str → Option Value) (base : Heap) (k n np : Nat) (ks : List Str) (ix : List Nat) (cn : Str) (g : Addr) (dd : List D) (c : List D → List D → R) : Prop where
  mak : Mk K (He.ga K cn) g
  ex : ∃ (fd : FuncData) (ps : List Str) (dvs : List V) (dds : List Value), MP.FnOk P w K mg base (L2.CX P w) k g fd ps (spI K cn n c) ∧
    (∀ (s : Shared) (self : Value) (us ws : List Value), K.In s.heap → us.length = np → ws.length = ks.length → BindsTo s fd ⟨self :: us, ks.zip ws⟩ (ps.zip (self :: pickL ix (us ++ ws ++ dds)))) ∧ Vals dvs dds ∧ (∀ F Ad, DenL K F Ad dvs dd)
section
variable {X : Cx} {W : WX} {N0 : Ent} {F H : Hp} {Ad : List Addr} {M : List D} {env : EnvM} {σ : St} {Q : VK} {k n np : Nat} {ks : List Str} {ix : List Nat} {g : Addr} {dd : List D} {c : List D → List D → R} {es : List Expr} {e : Expr} {l1 l2 : LF} {y cn : Str} {p pos kpos : Pos} {kws : List Keyword}
end
end MP
set_option maxRecDepth 100000
set_option maxHeartbeats 4000000
namespace MP
open PySem PySem.Spec PyProof.Rows L2
variable [TabsP] [ThkP]
def starD : D → Option (List D)
  | .tup ds => some ds
  | .ktp ds => some ds
  | .lst ds => some ds
  | _ => none
def lStar (f : EF) (l : LF) : LF := fun env M => (f env M).bindL fun x M1 => match starD (view M1 x) with
  | some ds => (l env M1).bindL fun ys M2 => .ok (ds ++ ys) M2
  | none => .stuck
section
variable {X : Cx} {W : WX} {N0 : Ent} {F H : Hp} {Ad : List Addr} {M : List D} {env : EnvM} {σ : St} {e : Expr} {es : List Expr} {f : EF} {l : LF} {p : Pos} {x : V}
end
end MP
set_option maxRecDepth 100000
set_option maxHeartbeats 1000000
namespace MP
open PySem PySem.Spec PyProof.Rows L2
variable [TabsP] [ThkP]
section
variable {X : Cx} {W : WX} {K : PySem.W.Frag} {E : XK} {DR : DRel} {N0 : Ent} {H0 F H : Hp} {Ad : List Addr} {M : List D} {env : EnvM} {σ : St} {Q : VK} {x : V}
end
end MP
set_option maxRecDepth 100000
set_option maxHeartbeats 1000000
namespace MP
open PySem PySem.Spec PyProof.Rows L2
variable [TabsP] [ThkP]
section
variable {X : Cx} {W : WX} {K : PySem.W.Frag} {E : XK} {DR : DRel} {N0 : Ent} {H0 F H : Hp} {Ad : List Addr} {M : List D} {env : EnvM} {σ : St} {Q : VK} {x y : V} {o k e a b c : Expr} {fo fk fd fa fb fc fv : EF} {apos cpos pos : Pos}
def dictD : D → Bool
  | .dK _ => true
  | .dT _ => true
  | _ => false
def getD (dx dy : D) : Option (Option D) := match dx with
  | .dT kvs => (match dy with | .tup ks => (keysD ks).map fun k => valK kvs k | _ => none)
  | .dK kvs => (keyD dy).map fun k => valK kvs k
  | _ => none
theorem isD_of (m : MemOk K F Ad M H) {dx : D} (ax : DV K F Ad H x dx) (h : dictD dx = true) : ∃ a, x = .ref a ∧ IsD H a := by
  cases dx with
  | dK kvs => obtain ⟨a, vs, e, r, _⟩ := ax.dK m; exact ⟨a, e, .inl ⟨vs, r⟩⟩
  | dT kvs => obtain ⟨a, vs, e, r, _⟩ := ax.dT m; exact ⟨a, e, .inr ⟨vs, r⟩⟩
  | _ => cases h
theorem dget_of (m : MemOk K F Ad M H) {dx dy : D} {od : Option D} (ax : DV K F Ad H x dx) (hy : Den K F Ad y dy) (e : getD dx dy = some od) :
    ∃ a ov, x = .ref a ∧ DGet H a y ov ∧ ((od = none ∧ ov = none) ∨ ∃ d v, od = some d ∧ ov = some v ∧ Den K F Ad v d) := by
  have fin : ∀ {od : Option D} {ov : Option V}, (∀ d, od = some d → ∃ v, ov = some v ∧ Den K F Ad v d) → (od = none → ov = none) → (od = none ∧ ov = none) ∨ ∃ d v, od = some d ∧ ov = some v ∧ Den K F Ad v d := fun {od ov} h1 h2 => by
    cases od with
    | none => exact .inl ⟨rfl, h2 rfl⟩
    | some d => obtain ⟨v, v1, v2⟩ := h1 d rfl; exact .inr ⟨d, v, rfl, v1, v2⟩
  cases dx with
  | dK kvs =>
    obtain ⟨a, vs, ex, r, dd⟩ := ax.dK m
    unfold getD at e
    cases q : keyD dy with
    | none => rw [q] at e; cases e
    | some k =>
      rw [q] at e
      cases e
      have z := DenK.val k dd
      exact ⟨a, valV vs k, ex, .inl ⟨vs, k, r, keyD_v hy q, rfl⟩, fin z.1 z.2⟩
  | dT kvs =>
    obtain ⟨a, vs, ex, r, dd⟩ := ax.dT m
    unfold getD at e
    cases dy with
    | tup ks =>
      dsimp only at e
      cases q : keysD ks with
      | none => rw [q] at e; cases e
      | some kk =>
        rw [q] at e
        cases e
        obtain ⟨c, c1, c2, _⟩ := tup_of m hy q
        have z := DenT.val kk dd
        exact ⟨a, valV vs kk, ex, .inr ⟨vs, kk, c, r, c1, c2, rfl⟩, fin z.1 z.2⟩
    | _ => cases e
  | _ => cases e
def getR (d : D) (r : Option (Option D)) (M : List D) : R := match r with
  | some (some v) => .ok v M
  | some none => .ok d M
  | none => .stuck
def guD (b : Bool) (r : R) : R := if b = true then r else .stuck
def eGet1 (fo fk : EF) : EF := fun env M => (fo env M).bind fun x M1 => guD (dictD (view M1 x)) ((fk env M1).bind fun y M2 => getR .non (getD (view M2 x) y) M2)
def eGet2 (fo fk fd : EF) : EF := fun env M => (fo env M).bind fun x M1 => guD (dictD (view M1 x)) ((fk env M1).bind fun y M2 => (fd env M2).bind fun z M3 => getR z (getD (view M3 x) y) M3)
theorem se_get1 (hu : X.A.units + 1 < cLine) (ho : SB X W o fo) (hk : SE X W k fk) (mm : M1 X o "get" apos k cpos) : SE X W (.Call (.Attribute o "get" apos) [k] [] cpos) (eGet1 fo fk) :=
  PE.imp (pe_dget1 hu ho hk mm) fun σ H Q ⟨N0, F, Ad, M, env, m, en, r⟩ => tG_seq DE.ok m en r fun d M1 v F1 Ad1 H1 g1 m1 en1 x1 r1 => by
    unfold guD at r1
    split at r1
    · rename_i hd
      obtain ⟨a, ea, ia⟩ := isD_of m1 (DB.view m1 x1) hd
      refine ⟨a, ea, ia, tG_seq DE.ok m1 en1 r1 fun d2 M2 v2 F2 Ad2 H2 g2 m2 en2 x2 r2 => ?_⟩
      unfold getR at r2
      split at r2
      · rename_i z q
        obtain ⟨a', ov, e1, e2, e3⟩ := dget_of m2 (DB.view m2 (DB.gr g2 x1 (H0' := H2))) x2 q
        rcases e3 with ⟨e3, _⟩ | ⟨d3, v3, e3, rfl, x3⟩
        · cases e3
        · cases e3
          rw [ea] at e1
          cases e1
          exact ⟨_, e2, RP.here r2 m2 x3⟩
      · rename_i q
        obtain ⟨a', ov, e1, e2, e3⟩ := dget_of m2 (DB.view m2 (DB.gr g2 x1 (H0' := H2))) x2 q
        rcases e3 with ⟨_, rfl⟩ | ⟨d3, v3, e3, _⟩
        · rw [ea] at e1
          cases e1
          exact ⟨_, e2, RP.here r2 m2 .non⟩
        · cases e3
      · exact r2.elim
    · exact r1.elim
theorem se_get2 (hu : X.A.units + 1 < cLine) (ho : SB X W o fo) (hk : SE X W k fk) (hd : SE X W e fd) (mm : M2 X o "get" apos k e cpos) : SE X W (.Call (.Attribute o "get" apos) [k, e] [] cpos) (eGet2 fo fk fd) :=
  PE.imp (pe_dget2 hu ho hk hd mm) fun σ H Q ⟨N0, F, Ad, M, env, m, en, r⟩ => tG_seq DE.ok m en r fun d M1 v F1 Ad1 H1 g1 m1 en1 x1 r1 => by
    unfold guD at r1
    split at r1
    · rename_i hd
      obtain ⟨a, ea, ia⟩ := isD_of m1 (DB.view m1 x1) hd
      refine ⟨a, ea, ia, tG_seq DE.ok m1 en1 r1 fun d2 M2 v2 F2 Ad2 H2 g2 m2 en2 x2 r2 => tG_seq DE.ok m2 en2 r2 fun d3 M3 v3 F3 Ad3 H3 g3 m3 en3 x3 r3 => ?_⟩
      have x13 : DB X.K H3 F3 Ad3 H3 v d := DB.gr (g2.trans g3) x1
      have x23 := x2.mono g3.fle g3.pre
      unfold getR at r3
      split at r3
      · rename_i z q
        obtain ⟨a', ov, e1, e2, e3⟩ := dget_of m3 (DB.view m3 x13) x23 q
        rcases e3 with ⟨e3, _⟩ | ⟨d4, v4, e3, rfl, x4⟩
        · cases e3
        · cases e3
          rw [ea] at e1
          cases e1
          exact ⟨_, e2, RP.here r3 m3 x4⟩
      · rename_i q
        obtain ⟨a', ov, e1, e2, e3⟩ := dget_of m3 (DB.view m3 x13) x23 q
        rcases e3 with ⟨_, rfl⟩ | ⟨d4, v4, e3, _⟩
        · rw [ea] at e1
          cases e1
          exact ⟨_, e2, RP.here r3 m3 x3⟩
        · cases e3
      · exact r3.elim
    · exact r1.elim
def eDisp1 (fk fv : EF) : EF := fun env M => (fk env M).bind fun x M1 => (fv env M1).bind fun y M2 => match keyD x with
  | some k => .ok (.dK [(k, y)]) M2
  | none => .stuck
def bParO (i j : Nat) (fa fb : EF) : SF := fun env M => (fa env M).bindS env fun d M1 => (fb env M1).bindS env fun d2 M2 => match (gN i d env).bind (oN j d2) with
  | some env1 => .next env1 M2
  | none => .stuck
def bPar3 (i j l : Nat) (fa fb fc : EF) : SF := fun env M => (fa env M).bindS env fun d M1 => (fb env M1).bindS env fun d2 M2 => (fc env M2).bindS env fun d3 M3 => match gAll [i, j, l] [d, d2, d3] env with
  | some env1 => .next env1 M3
  | none => .stuck
end
end MP
set_option maxRecDepth 100000
set_option maxHeartbeats 1000000
namespace MP
open PySem PySem.Spec PyProof.Rows L2
variable [TabsP] [ThkP]
section
variable {P : Program} {w : World} {A : Around} {E : Value → Shared → Prop} {s : Shared}
end
section
variable {X : Cx} {W : WX} {K : PySem.W.Frag} {DR : DRel} {F H : Hp} {Ad : List Addr} {M : List D} {σ : St} {x : V}
theorem u2 {k : Nat} {A : Around} (r : MP.Room k A) : A.units + 2 < cLine := by have := r.units; omega
end
end MP
set_option maxRecDepth 100000
set_option maxHeartbeats 4000000
namespace MP
open PySem PySem.Spec PyProof.Rows L2
variable [TabsP] [ThkP]
def eMethQ (cn m : Str) (c : List D → List D → R) (n np nk : Nat) (ix : List Nat) (dd : List D) (o : EF) (l1 l2 : LF) : EF := fun env M => (o env M).bind fun x M1 => match view M1 x with
  | .ins c' fs => if c' = cn ∧ fs.lookup m = none then (l1 env M1).bind fun xs M2 => (l2 env M2).bind fun ys M3 => apQ c n np nk ix dd (x :: xs) ys M3 else .stuck
  | _ => .stuck
section
variable {X : Cx} {W : WX} {DR : DRel} {N0 : Ent} {F H : Hp} {Ad : List Addr} {M : List D} {env : EnvM} {σ : St} {Q : VK} {k n np : Nat} {ks : List Str} {ix : List Nat} {g : Addr} {dd : List D} {c : List D → List D → R} {es : List Expr} {e : Expr} {l l1 l2 : LF} {f : EF} {y m : Str} {p pos kpos : Pos} {kws : List Keyword} {nm : Option Str}
@[simp] theorem eMethQ_eq {cn m : Str} {f : EF} : eMethQ cn m c n np nk ix dd f l1 l2 env M = (f env M).bind fun x M1 => methR cn m (view M1 x) ((l1 env M1).bind fun xs M2 => (l2 env M2).bind fun ys M3 => apQ c n np nk ix dd (x :: xs) ys M3) := by
  unfold eMethQ
  cases f env M with
  | ok x M1 => show (match view M1 x with | .ins c' fs => _ | _ => _) = methR cn m (view M1 x) _; unfold methR; split <;> simp_all
  | _ => rfl
end
end MP
set_option maxRecDepth 100000
set_option maxHeartbeats 1000000
namespace MP
open PySem PySem.Spec PyProof.Rows L2
variable [TabsP] [ThkP]
def eChain3 (g g' g'' : D → D → List D → R) (a b c d : EF) : EF := fun env M => (a env M).bind fun x M1 => (b env M1).bind fun y M2 => (g x y M2).bind fun r M3 => match r with
  | .bl true => (c env M3).bind fun z M4 => (g' y z M4).bind fun r M5 => match r with
    | .bl true => (d env M5).bind fun u M6 => g'' z u M6
    | .bl false => .ok (.bl false) M5
    | _ => .stuck
  | .bl false => .ok (.bl false) M3
  | _ => .stuck
section
variable {X : Cx} {W : WX} {K : PySem.W.Frag} {DR : DRel} {N0 : Ent} {F H : Hp} {Ad : List Addr} {M : List D} {env : EnvM} {σ : St} {Q : VK} {a b c d : Expr} {fa fb fc fd : EF} {pos : Pos}
@[simp] theorem eChain3_eq {G G' G''} : eChain3 G G' G'' fa fb fc fd env M = (fa env M).bind fun x M1 => (fb env M1).bind fun y M2 => (G x y M2).bind fun r M3 => iteR r ((fc env M3).bind fun z M4 => (G' y z M4).bind fun r M5 => iteR r ((fd env M5).bind fun u M6 => G'' z u M6) (.ok (.bl false) M5)) (.ok (.bl false) M3) := by
  unfold eChain3
  refine iteR_fun fun x M1 => iteR_fun fun y M2 => iteR_fun fun r M3 => ?_
  cases r with
  | bl k =>
    cases k with
    | false => rfl
    | true =>
      show R.bind _ _ = R.bind _ _
      refine iteR_fun fun z M4 => iteR_fun fun r M5 => ?_
      cases r with
      | bl k => cases k <;> rfl
      | _ => rfl
  | _ => rfl
def tChain3 (r r' r'' : R2) (ta tb tc td : TE) : TE := fun σ H Q => ta σ H fun x H1 => tb σ H1 fun y H2 => r x y H2 fun z H3 => ∃ k, z = .bl k ∧
  (if k = true then tc σ H3 fun x2 H4 => r' y x2 H4 fun z2 H5 => ∃ k2, z2 = .bl k2 ∧ (if k2 = true then td σ H5 fun x3 H6 => r'' x2 x3 H6 Q else Q (.bl false) H5) else Q (.bl false) H3)
theorem pe_ch3 {ta tb tc td : TE} {op op' op'' : CmpOp} {r r' r'' : R2} (ho : OpR X (compareOp op) r) (ho' : OpR X (compareOp op') r') (ho'' : OpR X (compareOp op'') r'') (ha : PE X a ta) (hb : PE X b tb) (hc : PE X c tc) (hd : PE X d td)
    (hm : lastMarks [op, op', op''] [b, c, d] = false) : PE X (.Compare a [op, op', op''] [b, c, d] pos) (tChain3 r r' r'' ta tb tc td) := by
  refine ⟨fun pins s σ H Q I h => Compare_chain (thn (ha.run pins s σ H _ I h) fun v s1 ⟨x, H1, I1, r1, q1⟩ => chain_link (thn (hb.run pins s1 σ H1 _ I1 q1) fun u s2 ⟨y, H2, I2, r2, q2⟩ =>
    thn (ho pins s2 σ H2 x y v u _ I2 r1 r2 q2) fun _ s3 ⟨_, H3, I3, r3, k, e, q3⟩ => ?_)) hm⟩
  subst e
  cases r3
  refine wpAny_truthy_bool ?_
  cases k with
  | false => exact ite_ff ⟨.bl false, H3, I3, rfl, q3⟩
  | true =>
    refine ite_tt (chain_link (thn (hc.run pins s3 σ H3 _ I3 q3) fun w4 s4 ⟨y4, H4, I4, r4, q4⟩ => thn (ho' pins s4 σ H4 y y4 u w4 _ I4 r2 r4 q4) fun _ s5 ⟨_, H5, I5, r5, k2, e5, q5⟩ => ?_))
    subst e5
    cases r5
    refine wpAny_truthy_bool ?_
    cases k2 with
    | false => exact ite_ff ⟨.bl false, H5, I5, rfl, q5⟩
    | true => exact ite_tt (chain_last (thn (hd.run pins s5 σ H5 _ I5 q5) fun w6 s6 ⟨y6, H6, I6, r6, q6⟩ => ho'' pins s6 σ H6 y4 y6 w4 w6 Q I6 r4 r6 q6))
theorem se_ch3 {op op' op'' : CmpOp} {g g' g'' : D → D → List D → R} (ho : Op2 X (DE X.K) (compareOp op) g) (ho' : Op2 X (DE X.K) (compareOp op') g') (ho'' : Op2 X (DE X.K) (compareOp op'') g'') (ha : SB X W a fa) (hb : SB X W b fb) (hc : SB X W c fc) (hd : SB X W d fd)
    (hm : lastMarks [op, op', op''] [b, c, d] = false := by rfl) : SE X W (.Compare a [op, op', op''] [b, c, d] pos) (eChain3 g g' g'' fa fb fc fd) :=
  ⟨fun pins s σ H Q I ⟨N0, F, Ad, M, env, m, en, r⟩ => (pe_ch3 (ho.opR (E := fun c d H => W c d σ H)) (ho'.opR (E := fun c d H => W c d σ H)) (ho''.opR (E := fun c d H => W c d σ H)) ha hb hc hd hm).run pins s σ H Q I (by
    refine tG_seq DE.ok m en r fun d1 M1 v F1 Ad1 H1 g1 m1 en1 x1 r1 => tG_seq DE.ok m1 en1 r1 fun d2 M2 v2 F2 Ad2 H2 g2 m2 en2 x2 r2 => ⟨F2, Ad2, M2, d1, d2, m2, DB.gr g2 x1, x2, ?_⟩
    cases q : g d1 d2 M2 with
    | exc x M3 => rw [q] at r2; exact r2
    | stuck => rw [q] at r2; exact r2
    | ok d3 M3 =>
      rw [q] at r2
      intro v3 F3 Ad3 H3 g3 m3 x3
      have r3 := RP.gr DE.ok r2 g3
      have en3 := en2.gr g3
      cases d3 with
      | bl k =>
        cases x3
        refine ⟨k, rfl, ?_⟩
        cases k with
        | false => exact RP.here r3 m3 .bl
        | true =>
          refine tG_seq DE.ok m3 en3 r3 fun d4 M4 v4 F4 Ad4 H4 g4 m4 en4 x4 r4 => ⟨F4, Ad4, M4, d2, d4, m4, DB.gr g4 (DB.gr g3 x2 (H0' := H3)), x4, ?_⟩
          cases q4 : g' d2 d4 M4 with
          | exc x M5 => rw [q4] at r4; exact r4
          | stuck => rw [q4] at r4; exact r4
          | ok d5 M5 =>
            rw [q4] at r4
            intro v5 F5 Ad5 H5 g5 m5 x5
            have r5 := RP.gr DE.ok r4 g5
            have en5 := en4.gr g5
            cases d5 with
            | bl k2 =>
              cases x5
              refine ⟨k2, rfl, ?_⟩
              cases k2 with
              | false => exact RP.here r5 m5 .bl
              | true => exact tG_seq DE.ok m5 en5 r5 fun d6 M6 v6 F6 Ad6 H6 g6 m6 en6 x6 r6 => ⟨F6, Ad6, M6, d4, d6, m6, DB.gr g6 (DB.gr g5 x4 (H0' := H5)), x6, r6⟩
            | _ => exact r5.elim
      | _ => exact r3.elim)⟩
end
end MP
set_option maxRecDepth 100000
set_option maxHeartbeats 1000000
namespace MP
open PySem PySem.Spec PyProof.Rows L2
variable [TabsP] [ThkP]
section
variable {X : Cx} {W : WX} {K : PySem.W.Frag} {DR : DRel} {N0 : Ent} {F H : Hp} {Ad : List Addr} {M : List D} {env : EnvM} {σ : St} {Q : VK} {a b c d : Expr} {fa fb fc fd : EF} {pos : Pos}
def bRetO (i : Nat) : SF := fun env M => match env[i]? with
  | some (.own d) => .ret d M
  | _ => .stuck
@[simp] theorem bRetO_own {i : Nat} {d : D} (h : env[i]? = some (.own d)) : bRetO i env M = .ret d M := by unfold bRetO; rw [h]
end
end MP
set_option maxRecDepth 100000
set_option maxHeartbeats 1000000
namespace MP
open PySem PySem.Spec PyProof.Rows L2
variable [TabsP] [ThkP]
section
variable {P : Program} {w : World} {T : Type} [DecidableEq T] {kd : HeapKind P w T} {A : Around} {E : Value → Shared → Prop} {s : Shared} {p o q : Addr} {kvs more xs : List (T × Addr × Value)} {k : T} {v : Value}
end
end MP
set_option maxRecDepth 100000
set_option maxHeartbeats 1000000
namespace MP
open PySem PySem.Spec PyProof.Rows L2
variable [TabsP] [ThkP]
section
variable {P : Program} {w : World} {A : Around} {E : Value → Shared → Prop} {s : Shared}
end
end MP
set_option maxRecDepth 100000
set_option maxHeartbeats 1000000
namespace MP
open PySem PySem.Spec PyProof.Rows L2
variable [TabsP] [ThkP]
section
variable {X : Cx} {W : WX} {K : PySem.W.Frag} {DR : DRel} {N0 : Ent} {F H : Hp} {Ad : List Addr} {M : List D} {env : EnvM} {σ : St} {Q : VK} {em k e : Expr} {fm fk fv : EF} {pos : Pos}
end
end MP
set_option maxRecDepth 100000
set_option maxHeartbeats 1000000
namespace MP
open PySem PySem.Spec PyProof.Rows L2
variable [TabsP] [ThkP]
section
variable {X : Cx} {W : WX} {K : PySem.W.Frag} {DR : DRel} {N0 : Ent} {F H : Hp} {Ad : List Addr} {M : List D} {env : EnvM} {σ : St} {Q : VK} {pos : Pos} {i j : Nat}
end
end MP
set_option maxRecDepth 100000
set_option maxHeartbeats 1000000
namespace MP
open PySem PySem.Spec PyProof.Rows L2
variable [TabsP] [ThkP]
section
variable {X : Cx} {W : WX} {K : PySem.W.Frag} {DR : DRel} {N0 : Ent} {F H : Hp} {Ad : List Addr} {M : List D} {env : EnvM} {σ : St} {Q : VK} {pos : Pos}
def bSum (ds : List D) (M : List D) : R := match ds with
  | [d] => (match view M d with
    | .lst xs => (match intsOf xs with
      | some ns => .ok (.int ns.sum) M
      | none => .stuck)
    | _ => .stuck)
  | _ => .stuck
theorem call_sumS (hc : X.calm = true) : CallS X (DE X.K) (.builtin "sum") bSum := by
  intro pins s σ H F Ad M E xs us ds Q I m rv x r
  unfold bSum at r
  split at r
  · rename_i d
    obtain ⟨v, rfl, hx⟩ := x.one
    have ax := DB.view m hx
    split at r
    · rename_i ys e; rw [e] at ax; obtain ⟨a, vs, rfl, h1, h2⟩ := ax.lst m
      split at r
      · rename_i t e2
        exact cr_sum hc pins s σ H _ us Q I rv ⟨a, t, rfl, by rw [← h2.ints e2]; exact SqL.of h1, RP.here r m .int⟩
      · exact r.elim
    · exact r.elim
  · exact r.elim
def flD : D → Option V
  | .non => some .non | .bl b => some (.bl b) | .int i => some (.int i) | .str s => some (.str s) | _ => none
def flL : List D → Option (List V)
  | [] => some []
  | d :: ds => match flD d, flL ds with | some v, some vs => some (v :: vs) | _, _ => none
theorem flD_v {d : D} {v u : V} (h : Den K F Ad u d) (e : flD d = some v) : u = v ∧ flatV v = true := by
  cases d with
  | non => cases e; cases h; exact ⟨rfl, rfl⟩
  | bl b => cases e; cases h; exact ⟨rfl, rfl⟩
  | int i => cases e; cases h; exact ⟨rfl, rfl⟩
  | str s => cases e; cases h; exact ⟨rfl, rfl⟩
  | _ => cases e
theorem flL_v : ∀ {ds : List D} {us vs : List V}, DenL K F Ad us ds → flL ds = some vs → us = vs ∧ vs.all flatV = true
  | [], _, _, .nil, e => by cases e; exact ⟨rfl, rfl⟩
  | d :: ds, _, _, .cons h1 h2, e => by
    unfold flL at e
    split at e
    · rename_i v vs e1 e2
      cases e
      obtain ⟨rfl, f1⟩ := flD_v h1 e1
      obtain ⟨rfl, f2⟩ := flL_v h2 e2
      exact ⟨rfl, by rw [List.all_cons, f1, f2]; rfl⟩
    · cases e
def seqD : D → Option (List D)
  | .lst xs => some xs | .tup xs => some xs | .ktp xs => some xs | _ => none
def oInF (neg : Bool) (x y : D) (M : List D) : R := match flD (view M x), seqD (view M y) with
  | some v, some ys => (match flL ys with
    | some vs => .ok (.bl (if neg then !inV v vs else inV v vs)) M
    | none => .stuck)
  | _, _ => .stuck
theorem inF_ {neg : Bool} {f : Value → Value → Sem Value} (h : OpR X f (rIn X.K neg)) : Op2 X (DE X.K) f (oInF neg) := by
  intro pins s σ H F Ad M E x y v u dx dy Q I m rx ry hx hy r
  have ax := DB.view m hx
  have ay := DB.view m hy
  unfold oInF at r
  revert r ax ay
  generalize view M dx = ex
  generalize view M dy = ey
  intro r ax ay
  split at r
  · rename_i vx ys e1 e2
    split at r
    · rename_i vs e3
      have fx : x = vx ∧ flatV vx = true := by
        cases ex with
        | non => cases e1; exact ⟨ax.non, rfl⟩
        | bl b => cases e1; exact ⟨ax.bl, rfl⟩
        | int i => cases e1; exact ⟨ax.int, rfl⟩
        | str z => cases e1; exact ⟨ax.str, rfl⟩
        | _ => cases e1
      obtain ⟨rfl, fx⟩ := fx
      cases ey with
      | lst xs =>
        cases e2
        obtain ⟨a, ws, rfl, h1, h2⟩ := ay.lst m
        obtain ⟨rfl, fs⟩ := flL_v h2 e3
        exact h pins s σ H _ _ v u Q I rx ry ⟨a, ws, rfl, .inl (SqL.of h1), fx, fs, RP.here r m .bl⟩
      | tup xs =>
        cases e2
        obtain ⟨a, ws, rfl, h1, h2⟩ := ay.tup m
        obtain ⟨rfl, fs⟩ := flL_v h2 e3
        exact h pins s σ H _ _ v u Q I rx ry ⟨a, ws, rfl, .inr (h1), fx, fs, RP.here r m .bl⟩
      | ktp xs =>
        cases e2
        obtain ⟨a, ws, rfl, h1, h2⟩ := ay.ktp m
        obtain ⟨rfl, fs⟩ := flL_v h2 e3
        exact h pins s σ H _ _ v u Q I rx ry ⟨a, ws, rfl, .inr h1, fx, fs, RP.here r m .bl⟩
      | _ => cases e2
    · exact r.elim
  · exact r.elim
theorem op2_inF : Op2 X (DE X.K) (compareOp .In) (oInF false) := inF_ op_in_seq
end
end MP
set_option maxRecDepth 100000
set_option maxHeartbeats 1000000
namespace MP
open PySem PySem.Spec PyProof.Rows L2
variable [TabsP] [ThkP]
end MP
set_option maxRecDepth 100000
set_option maxHeartbeats 1000000
namespace MP
open PySem PySem.Spec PyProof.Rows L2
variable [TabsP] [ThkP]
section
variable {X : Cx} {K : PySem.W.Frag} {F H : Hp} {Ad : List Addr} {M : List D}
def geI (ns ms : List Int) : Bool := Ob.lexAt (fun j => decide (ns.getD j 0 = ms.getD j 0)) (fun j => decide (ms.getD j 0 ≤ ns.getD j 0)) (decide (ns.length ≥ ms.length)) 0 (min ns.length ms.length)
def rGeI (K : PySem.W.Frag) : R2 := fun x y H Q => ∃ (a b : Addr) (ns ms : List Int), x = .ref a ∧ y = .ref b ∧ SqT K H a (ns.map V.int) ∧ SqT K H b (ms.map V.int) ∧ Q (.bl (geI ns ms)) H
theorem op_geI (hu : X.A.units < cLine) : OpR X (compareOp .GtE) (rGeI X.K) := by
  rintro pins s σ H x y v u Q I rx ry ⟨a, b, ns, ms, rfl, rfl, ha, hb, q⟩
  cases rx
  cases ry
  obtain ⟨xs, r1, p1, _⟩ := I.tuple ha
  obtain ⟨ys, r2, p2, _⟩ := I.tuple hb
  have i1 : IntsAre xs ns := Vals.ints r1
  have i2 : IntsAre ys ms := Vals.ints r2
  have z1 : xs.toArray.size = ns.length := List.size_toArray.trans i1.length
  have z2 : ys.toArray.size = ms.length := List.size_toArray.trans i2.length
  have g1 : ∀ j (h : j < xs.toArray.size), ∃ t, xs.toArray[j] = .int (ns.getD j 0) t := fun j h => PyProof.Rows.IntsAre.int_at i1 _ _ (by simp at h; simp [h])
  have g2 : ∀ j (h : j < ys.toArray.size), ∃ t, ys.toArray[j] = .int (ms.getD j 0) t := fun j h => PyProof.Rows.IntsAre.int_at i2 _ _ (by simp at h; simp [h])
  have R := Ob.RcOp.tuples_ge (A := X.A) (s := s) (e := fun j => decide (ns.getD j 0 = ms.getD j 0)) (r := fun j => decide (ms.getD j 0 ≤ ns.getD j 0)) p1 p2 hu
    (fun j h1 h2 => by
      obtain ⟨t, e⟩ := g1 j h1
      obtain ⟨t', e'⟩ := g2 j h2
      rw [e, e', show decide (ns.getD j 0 = ms.getD j 0) = (ns.getD j 0 == ms.getD j 0) from by rw [Bool.eq_iff_iff]; simp]
      exact SeqAt.EqAt.int_int _ _ _ _)
    (fun j h1 h2 _ => by
      obtain ⟨t, e⟩ := g1 j h1
      obtain ⟨t', e'⟩ := g2 j h2
      rw [e, e']
      exact Ob.RcOp.ge_int _ _ _ _)
  rw [z1, z2] at R
  exact R X.prog X.w X.xe (EP X pins σ Q) ⟨.bl _, H, I, rfl, q⟩
def oGeT (x y : D) (M : List D) : R := match view M x, view M y with
  | .tup a, .tup b => (match intsOf a, intsOf b with
    | some ns, some ms => .ok (.bl (geI ns ms)) M
    | _, _ => .stuck)
  | _, _ => .stuck
theorem op2_geT (hu : X.A.units < cLine) : Op2 X (DE X.K) (compareOp .GtE) oGeT := by
  intro pins s σ H F Ad M E x y v u dx dy Q I m rx ry hx hy r
  have ax := DB.view m hx
  have ay := DB.view m hy
  unfold oGeT at r
  revert r ax ay
  generalize view M dx = ex
  generalize view M dy = ey
  intro r ax ay
  split at r
  · split at r
    · rename_i ns ms e1 e2
      obtain ⟨p, vs, rfl, h1, d1⟩ := ax.tup m
      obtain ⟨q, ws, rfl, h2, d2⟩ := ay.tup m
      rw [d1.ints e1] at h1
      rw [d2.ints e2] at h2
      exact op_geI hu pins s σ H _ _ v u Q I rx ry ⟨p, q, ns, ms, rfl, rfl, h1, h2, RP.here r m .bl⟩
    · exact r.elim
  · exact r.elim
end
end MP
set_option maxRecDepth 100000
set_option maxHeartbeats 1000000
namespace MP
open PySem PySem.Spec PyProof.Rows L2
variable [TabsP] [ThkP]
section
variable {X : Cx} {K : PySem.W.Frag} {F H : Hp} {Ad : List Addr} {M : List D}
end
end MP
set_option maxRecDepth 100000
set_option maxHeartbeats 1000000
namespace MP
open PySem PySem.Spec PyProof.Rows L2
variable [TabsP] [ThkP]
section
variable {X : Cx} {K : PySem.W.Frag} {F H : Hp} {Ad : List Addr} {M : List D}
end
end MP
set_option maxRecDepth 100000
set_option maxHeartbeats 1000000
namespace MP
open PySem PySem.Spec PyProof.Rows L2
variable [TabsP] [ThkP]
section
variable {X : Cx} {pins : List (Addr × Obj)} {σ : St} {H : Hp} {s : Shared} {d : Addr}
end
section
variable {X : Cx} {tg e : Expr} {td : TE} {apos cpos : Pos}
end
section
variable {X : Cx} {W : WX} {tg e : Expr} {f : EF} {apos cpos pos p : Pos}
end
section
variable {prog : Program} {w : World} {A : Around} {R : Result → Shared → Prop} {I : Addr} {fp wr : List Addr} {n : Nat} {P : Nat → Value → Prop} {St : Nat → Heap → Prop}
end
section
variable {X : Cx} {W : WX} {a e : Expr} {fx f : EF} {apos cpos pos : Pos}
end
section
variable {X : Cx} {W : WX} {tg e : Expr} {td : TE} {f : EF} {apos cpos : Pos} {K : PySem.W.Frag} {F : Hp} {Ad : List Addr} {a : Addr}
end
end MP
set_option maxRecDepth 100000
set_option maxHeartbeats 1000000
namespace HQ
open PySem PySem.W PySem.Calls PyProof.Rows HandSHeadRun
noncomputable section
section
variable (st : SharedT → Thread → Option (SharedT × Thread)) (n0 : Nat) (ann : Option Value)
def goP : Nat → SharedT → Thread → Option (SharedT × Thread)
  | 0, s, t => some (s, t)
  | m + 1, s, t => match through t with
    | true => none
    | false => match stepOk n0 ann t with
      | false => none
      | true => match st s t with
        | some (s2, t2) => frS s2 fun s3 => goP m s3 t2
        | none => none
end
def beg (st : SharedT → Thread → Option (SharedT × Thread)) (k : Nat) (p : Program) (w : World) (os : OsState) : Option (SharedT × Thread) := match putAll (boot_heap w.params).objs.toList .nil 0 with
  | some (t, n) => frNat n fun n0 => goP st n0 (bootAnn w) k (bootT w os (t, n0)) (topStub p)
  | none => none
def bootN (w : World) : Option Nat := (putAll (boot_heap w.params).objs.toList .nil 0).map (·.2)
theorem goP_F {st : SharedT → Thread → Option (SharedT × Thread)} {n0 : Nat} {ann : Option Value} (m : Nat) : ∀ {k : Nat} {s s2 : SharedT} {t t2 : Thread}, goP st n0 ann k s t = some (s2, t2) → goF st n0 ann (k + m) s t = goF st n0 ann m s2 t2
  | 0, s, s2, t, t2, h => by
    have e : some (s, t) = some (s2, t2) := h
    cases e
    rw [Nat.zero_add]
  | k + 1, s, s2, t, t2, h => by
    rw [show k + 1 + m = (k + m) + 1 by omega]
    unfold goP at h
    conv => lhs; unfold goF
    cases ht : through t with
    | true => rw [ht] at h; cases h
    | false =>
      rw [ht] at h
      dsimp only at h ⊢
      cases hk : stepOk n0 ann t with
      | false => rw [hk] at h; cases h
      | true =>
        rw [hk] at h
        dsimp only at h ⊢
        cases hs : st s t with
        | none => rw [hs] at h; cases h
        | some r =>
          obtain ⟨s4, t4⟩ := r
          rw [hs] at h
          dsimp only at h ⊢
          rw [frS_eq] at h ⊢
          exact goP_F m h
theorem beg_F {st : SharedT → Thread → Option (SharedT × Thread)} {p : Program} {w : World} {os : OsState} {n0 k : Nat} (m : Nat) {s : SharedT} {t : Thread} (hn : bootN w = some n0) (h : beg st k p w os = some (s, t)) : endF st (k + m) p w os = goF st n0 (bootAnn w) m s t := by
  unfold beg at h
  unfold endF
  unfold bootN at hn
  cases e : putAll (boot_heap w.params).objs.toList .nil 0 with
  | none => rw [e] at h; cases h
  | some r =>
    obtain ⟨tr, n⟩ := r
    rw [e] at h hn
    cases hn
    dsimp only at h ⊢
    rw [frNat_eq] at h ⊢
    exact goP_F m h
def hS (w : World) (s : Str) : Int := reduceHash (w.params.strHash s.cps)
def stOf (w : World) (os : OsState) (l : List Obj) (n toks : Nat) : SharedT := ⟨((putAll l .nil 0).map (·.1)).getD .nil, n, (boot_heap w.params).life, #[], boot_drawn, toks, os⟩
def envT (p : Program) (code : Nat) (fr : Nat) : Env := { scope := p.main.scope, locals := mainNs, globals := mainNs, cells := [], code := .ref code, frame := some fr }
def thOf (p : Program) (w : World) (os : OsState) (code fr i : Nat) (pos : Pos) : Thread := ⟨denQ tabQ (.body ((behindTheImports p).drop i) (envT p code fr)), .body (behindTheImports p) (envT p code fr), pos, match beg (stepQ (denQ tabQ) p w) 12 p w os with
  | some (_, t) => t.stack
  | none => []⟩
end
end HQ
namespace MP
open PySem PySem.Spec PyProof.Rows L2
end MP
set_option maxRecDepth 100000
set_option maxHeartbeats 1000000
namespace MP
open PySem PySem.Spec PyProof.Rows L2
variable [TabsP] [ThkP]
def DP (K : PySem.W.Frag) : DRel := fun H0 F Ad H v d => ∃ a x y d1 d2, v = .ref a ∧ d = .tup [d1, d2] ∧ H a = some (.tup [.ref x, .ref y]) ∧ F a = none ∧ H0 a = none ∧ DO K H0 F Ad H (.ref x) d1 ∧ DO K H0 F Ad H (.ref y) d2 ∧ x ≠ y
theorem DP.ok {K} : DRok (DP K) := fun F0 Ad0 H0 F Ad H F' Ad' H' v d g ⟨a, x, y, d1, d2, h1, h2, h3, h4, h5, h6, h7, h8⟩ => ⟨a, x, y, d1, d2, h1, h2, h3, h4, by
  cases q : H0 a with
  | none => rfl
  | some o => exact absurd h5 (g.alive a (by rw [q]; simp)), DO.ok _ _ _ _ _ _ _ _ _ _ _ g h6, DO.ok _ _ _ _ _ _ _ _ _ _ _ g h7, h8⟩
section
variable {K : PySem.W.Frag} {F H H1 : Hp} {Ad : List Addr} {M : List D} {env : EnvM} {σ : St} {N0 : Ent}
theorem notRoot_tup {K F Ad H a d vs} (h : H a = some (.tup vs)) : ¬ Root K F Ad H a d := fun r => by
  cases r with
  | lst h' _ => rw [h] at h'; cases h'
  | dK h' _ => rw [h] at h'; cases h'
  | dT h' _ => rw [h] at h'; cases h'
  | ins h' _ => rw [h] at h'; cases h'
theorem addT {F0 H0 : Hp} {Ad0 : List Addr} {a : Addr} {vs : List V} (g : Gr F0 Ad0 H0 F Ad H) (m : MemOk K F Ad M H) (h : H a = some (.tup vs)) (n : F a = none) (n0 : H0 a = none) :
    Gr F0 Ad0 H0 (upd F a (.tup vs)) Ad H ∧ MemOk K (upd F a (.tup vs)) Ad M H ∧ FLe F (upd F a (.tup vs)) := by
  have fl : FLe F (upd F a (.tup vs)) := fle_new n
  refine ⟨⟨g.fle.trans fl, fun b ob hb ro h1 na1 => ?_, g.apre, g.keep, g.alive⟩, ⟨fun b u hb => ?_, m.len, m.nd, fun k b e h1 h2 => ?_, m.tab⟩, fl⟩
  · rw [upd_ne (fun e => by rw [e, n0] at hb; cases hb)]; exact g.fnew b ob hb ro h1 na1
  · by_cases e : b = a
    · subst e; rw [upd_same] at hb; cases hb; exact h
    · rw [upd_ne e] at hb; exact m.sub b u hb
  · obtain ⟨f, q⟩ := m.cel k b e h1 h2
    have ne : b ≠ a := fun z => notRoot_tup (z ▸ h) q
    exact ⟨by rw [upd_ne ne]; exact f, q.mono fl (fun _ _ h => h) rfl⟩
theorem freezeP {F0 H0 : Hp} {Ad0 : List Addr} {v d} (g : Gr F0 Ad0 H0 F Ad H) (m : MemOk K F Ad M H) (h : DP K H0 F Ad H v d) : ∃ F', Gr F0 Ad0 H0 F' Ad H ∧ MemOk K F' Ad M H ∧ Den K F' Ad v d := by
  obtain ⟨a, x, y, d1, d2, rfl, rfl, h3, h4, h5, h6, h7, h8⟩ := h
  obtain ⟨F1, g1, m1, e1, l1, o1⟩ := freeze g m h6
  have h7' : DO K H0 F1 Ad H (.ref y) d2 := by
    obtain ⟨y', e, q1, q2, q3, q4⟩ := h7
    cases e
    exact ⟨y, rfl, o1 y q1 (fun z => h8 (by cases z; rfl)), q2, q3, q4.mono l1 (fun _ _ h => h) rfl⟩
  obtain ⟨F2, g2, m2, e2, l2, o2⟩ := freeze g1 m1 h7'
  have hx : x ≠ a := fun z => by obtain ⟨x', e, _, _, _, q⟩ := h6; cases e; exact notRoot_tup h3 (z ▸ q)
  have hy : y ≠ a := fun z => by obtain ⟨x', e, _, _, _, q⟩ := h7; cases e; exact notRoot_tup h3 (z ▸ q)
  have n2 : F2 a = none := o2 a (o1 a h4 (fun z => hx (by cases z; rfl))) (fun z => hy (by cases z; rfl))
  obtain ⟨g3, m3, l3⟩ := addT g2 m2 h3 n2 h5
  exact ⟨_, g3, m3, .tup (.inl upd_same) (.cons (e1.mono (l2.trans l3) fun _ _ h => h) (.cons (e2.mono l3 fun _ _ h => h) .nil))⟩
def isPar : B → Bool
  | .par _ => true
  | _ => false
def noPar (env : EnvM) : Bool := env.all fun b => !isPar b
theorem noPar_ne (h : noPar env = true) {i : Nat} {d : D} (hi : env[i]? = some (.par d)) : False := by
  have := List.all_eq_true.mp h _ (List.mem_of_getElem? hi)
  simp [isPar] at this
theorem EnvOk.up {F' H' : Hp} (en : EnvOk K N0 F Ad H σ env) (l : FLe F F') (gg : GrE N0 F' Ad H') (hb : ∀ b, Rt env σ N0 b → F' b = none ∧ H' b = H b) (np : noPar env = true) : EnvOk K N0 F' Ad H' σ env := by
  refine ⟨en.len, fun j e hj => ?_, fun j e hj => ?_, en.dis, fun j e hj => ?_, fun j e hj => (noPar_ne np hj).elim, fun j hj => ⟨(en.raw j hj).1, (en.raw j hj).2.1, gg⟩⟩
  · obtain ⟨v, z1, z2⟩ := en.shr j e hj
    exact ⟨v, z1, z2.mono l pre_refl⟩
  · obtain ⟨b, b1, b2, b3, b4, b5⟩ := en.own j e hj
    obtain ⟨q1, q2⟩ := hb b (.inl ⟨j, e, hj, b1⟩)
    exact ⟨b, b1, q1, b3, b4, b5.mono l pre_refl q2⟩
  · obtain ⟨z0, z1, z2, z3, z4, z5, z6⟩ := en.slf j e hj
    obtain ⟨q1, q2⟩ := hb _ (.inr ⟨j, e, hj, rfl⟩)
    exact ⟨z0, z1, q1, z3, z4, z5.mono l pre_refl q2, z6⟩
end
section
variable {X : Cx} {W : WX} {K : PySem.W.Frag} {DR : DRel} {N0 : Ent} {F H : Hp} {Ad : List Addr} {M : List D} {env : EnvM} {σ : St} {Q : VK} {pos : Pos}
theorem SP.e {e : Expr} {f : EF} (h : PE X e (tG X.K W (DP X.K) f)) : SE X W e f := PE.imp h fun σ H Q ⟨N0, F, Ad, M, env, m, en, r⟩ => ⟨N0, F, Ad, M, env, m, en, by
  cases q : f env M with
  | ok d M1 =>
    rw [q] at r
    intro v F' Ad' H' g m' x
    obtain ⟨F2, g2, m2, x2⟩ := freezeP g m' x
    exact r v F2 Ad' H' g2 m2 x2
  | exc x M1 => rw [q] at r; exact r
  | stuck => rw [q] at r; exact r⟩
def bRetP (i j : Nat) : SF := fun env M => match env[i]?, env[j]? with
  | some (.own d1), some (.own d2) => .ret (.tup [d1, d2]) M
  | _, _ => .stuck
@[simp] theorem bRetP_own {i j : Nat} {d1 d2 : D} (h : env[i]? = some (.own d1)) (h2 : env[j]? = some (.own d2)) : bRetP i j env M = .ret (.tup [d1, d2]) M := by unfold bRetP; rw [h, h2]
end
end MP
set_option maxRecDepth 100000
set_option maxHeartbeats 1000000
namespace MP
open PySem PySem.Spec PyProof.Rows L2
variable [TabsP] [ThkP]
section
variable {X : Cx} {W : WX} {K : PySem.W.Frag} {DR : DRel} {N0 : Ent} {F H : Hp} {Ad : List Addr} {M : List D} {env : EnvM} {σ : St} {Q : VK} {e : Expr} {es : List Expr} {l : LF} {pos p apos : Pos} {k n : Nat} {g : Addr} {dd : List D} {c : List D → List D → R}
def eCls (i : Nat) (cn : Str) (c : List D → List D → R) (n : Nat) (dd : List D) (l : LF) : EF := fun env M => match env[i]? with
  | some (.shr (.cls c')) => if c' = cn then (l env M).bind fun xs M1 => apC c n dd xs M1 else .stuck
  | _ => .stuck
theorem so_cls {i : Nat} {x cn : Str} (Ik : InK X.prog X.w X.K X.mg X.base k n cn g dd c) (hr : Room (k + 1) X.A) (hx : Pas X W) (hN : X.N[i]? = some x) (hv : Vis X.env.scope x) (ha : SL X W (e :: es) l) (hdb : (x == ("__debug__" : Str)) = false := by decide) (hcd : (x == ("__classdict__" : Str)) = false := by decide)
    (he : starEach (e :: es) X.env = (false, eval e X.env) :: starEach es X.env := by rfl) (hpl : (backTo pos (starEach es X.env)).any (·.1) = false := by rfl) : SO X W (.Call (.Name x p) (e :: es) [] pos) (eCls i cn c n dd l) := by
  obtain ⟨fd, ps, dvs, ws, Fo, hb, hvs, hd⟩ := Ik.ex
  refine ⟨fun pins s σ H Q I ⟨N0, F, Ad, M, env, m, en, r⟩ => ?_⟩
  unfold eCls at r
  split at r
  · rename_i c' hi
    split at r
    · rename_i ec
      subst ec
      obtain ⟨v0, hs0, x0⟩ := en.shr i _ hi
      cases x0
      refine wpAny_Call_Name_kw (thn ((pe_var (pos := p) hN hv hdb hcd).run pins s σ H (fun v H1 => v = .ref (He.ga X.K c') ∧ H1 = H) I ⟨_, hs0, rfl, rfl⟩) fun u s1 ⟨v, H1, I1, r1, q1⟩ => ?_)
      obtain ⟨rfl, rfl⟩ := q1
      obtain rfl : u = Value.ref _ := r1
      refine PySem.W.callWith_K (h₀ := X.base) I.ok.mod.kin Ik.mak.kp (thn (ha.run pos pins s1 σ _ _ I1 (tL_seq DO.ok m en r (Q' := fun vs H2 => ∃ F2 Ad2 M2 ds, MemOk X.K F2 Ad2 M2 H2 ∧ DenL X.K F2 Ad2 vs ds ∧ RP X.K (fun c d H => W c d σ H) (DO X.K) F2 Ad2 H2 Q (apC c n dd ds M2)) fun ds M2 vs F2 Ad2 H2 g2 m2 en2 x2 r2 =>
        ⟨F2, Ad2, M2, ds, m2, x2, r2⟩)) fun us s2 ⟨vs, H2, I2, r, F2, Ad2, M2, ds, m2, x2, r2⟩ => ⟨I2.kIn, ?_⟩) he hpl
      refine run_makeS Ik.mak Fo hr hb hvs (hx σ) I2 r fun x dx hx0 hd0 hne => ?_
      unfold apC at r2
      split at r2
      · rename_i hn
        have x3 := x2.append (hd F2 Ad2)
        refine ⟨by show (vs ++ dvs).length + 1 = n + 1; rw [x3.length, hn], x, dx, _, H2, F2, Ad2, M2, _, rfl, rfl, hx0, hd0, hne, m2, x3, ?_⟩
        cases hq : c (ds ++ dd) M2 with
        | ok d M3 =>
          rw [hq] at r2
          intro v F' Ad' H' g' m' z ev
          subst ev
          exact ⟨rfl, r2 _ F' Ad' H' g' m' z⟩
        | exc z M3 => rw [hq] at r2; exact r2
        | stuck => rw [hq] at r2; exact r2.elim
      · exact r2.elim
    · exact r.elim
  · exact r.elim
theorem run_fnKc {pins : List (Addr × Obj)} {s : Shared} {us : List Value} {vs : List V} {ds : List D} (Fk : FnX X DR k n g dd c) (hr : Room k X.A) (hx : Pas X W) (I : Inv X pins σ H s) (mm : MemOk X.K F Ad M H) (r : Vals vs us) (x : DenL X.K F Ad vs ds)
    (h : RP X.K (fun c d H => W c d σ H) DR F Ad H Q (apC c n dd ds M)) : codeAny (model X.prog X.w) X.A (.call (.ref g) ⟨us, []⟩) (fun r s' => match r with | .ok (.ret v) => EP X pins σ Q v s' | .ok _ => False | .error e => X.xe e s') s := by
  obtain ⟨fd, ps, dvs, ws, Fo, hb, hv, hd, hk⟩ := Fk.ex
  have h' := spD_of mm x hd h
  refine codeAny_mono (Fo.run X.A X.stack s H ⟨us, []⟩ (us ++ ws) (vs ++ dvs) Q _ hr I.env0 (hb s us I.kIn (by rw [← (r.append hv).length]; exact Fo.len _ _ _ _ h')) (r.append hv) h') fun r s' hq => ?_
  have z := cr_here (hx σ) I hq
  cases r with
  | error er => exact z
  | ok fl => cases fl with
    | ret u => exact z
    | _ => exact z.elim
def eCM (cn : Str) (c : List D → List D → R) (n : Nat) (dd : List D) (l : LF) : EF := fun env M => (l env M).bind fun xs M1 => apC c n dd (.cls cn :: xs) M1
theorem s_cmeth (dr : DRok DR) {y cn m : Str} {q : Addr} {pl : Sem Bool} (hc : CmOf X.K (He.ga X.K cn) m q g) (Fk : FnX X DR k n g dd c) (hr : Room k X.A) (hx : Pas X W) (ho : PE X (.Name y p) (fun _ H Q => Q (.ref (He.ga X.K cn)) H)) (ha : SL X W (e :: es) l)
    (hst : starEach (e :: es) X.env = (false, eval e X.env) :: starEach es X.env := by rfl) (hpl : (backTo pos (starEach es X.env)).any (·.1) = false := by rfl)
    (ht : eval (.Call (.Attribute (.Name y p) m apos) (e :: es) [] pos) X.env = (do
      let ov ← eval (.Name y p) X.env
      standAt apos.atName
      let (f, first) ← holding [ov] (getMethod ov m pl)
      callWith pos f first (backTo pos (starEach (e :: es) X.env)) (backToKw pos (keywordEach [] X.env))) := by rfl) : PE X (.Call (.Attribute (.Name y p) m apos) (e :: es) [] pos) (tG X.K W DR (eCM cn c n dd l)) := by
  refine ⟨fun pins s σ H Q I ⟨N0, F, Ad, M, env, mm, en, r⟩ => ?_⟩
  refine PySem.W.methodCall_KW (pl := pl) (thn (ho.run pins s σ H (fun v H1 => v = .ref (He.ga X.K cn) ∧ H1 = H) I ⟨rfl, rfl⟩) fun u s1 ⟨x, H1, I1, rx, q1⟩ => ?_) ht
  obtain ⟨rfl, rfl⟩ := q1
  obtain rfl : u = Value.ref _ := rx
  refine ClX.getmethcm_ok I1 ⟨hc.rd, hc.ga⟩ ⟨hc.at_, hc.rc, hc.fi⟩ fun s2 I2 => ?_
  refine ClX.callwith_cm I2 (ClX.base_none I1 (Nat.le_refl _)) hc.fi (thn (ha.run pos _ s2 σ _ _ I2 (tL_seq dr mm en r (Q' := fun vs H2 => ∃ F2 Ad2 M2 ds, MemOk X.K F2 Ad2 M2 H2 ∧ DenL X.K F2 Ad2 (.ref (He.ga X.K cn) :: vs) (.cls cn :: ds) ∧ RP X.K (fun c d H => W c d σ H) DR F2 Ad2 H2 Q (apC c n dd (.cls cn :: ds) M2)) fun ds M2 vs F2 Ad2 H2 g2 m2 en2 x2 r2 =>
      ⟨F2, Ad2, M2, ds, m2, .cons .cls x2, r2⟩)) fun us s3 ⟨vs, H2, I3, rv, F2, Ad2, M2, ds, m2, x2, r2⟩ => ⟨⟨ClX.pin_at I3, I3.kIn⟩, ?_⟩) hst hpl
  have z : wpAny (model X.prog X.w) X.A (call (.ref s1.heap.objs.size) us) (EP X ((s1.heap.objs.size, PySem.W.methodObj (.ref g) (.ref (He.ga X.K cn))) :: pins) σ Q) X.xe s3 :=
    wpAny_call (PySem.W.method_call (ClX.pin_at I3) (run_fnKc (us := .ref (He.ga X.K cn) :: us) (vs := .ref (He.ga X.K cn) :: vs) Fk hr hx I3 m2 (.cons rfl rv) x2 r2))
  exact thn z fun _ _ y => ClX.unpinE y
end
end MP
set_option maxRecDepth 100000
set_option maxHeartbeats 1000000
namespace MP
open PySem PySem.Spec PyProof.Rows L2
variable [TabsP] [ThkP]
section
variable {X : Cx} {W : WX} {K : PySem.W.Frag} {DR : DRel} {N0 : Ent} {F H : Hp} {Ad : List Addr} {M : List D} {env : EnvM} {σ : St} {Q : VK} {pos : Pos}
end
end MP
set_option maxRecDepth 100000
set_option maxHeartbeats 1000000
namespace MP
open PySem PySem.Spec PyProof.Rows L2
variable [TabsP] [ThkP]
section
variable {X : Cx} {W : WX} {K : PySem.W.Frag} {DR : DRel} {N0 : Ent} {F H : Hp} {Ad : List Addr} {M : List D} {env : EnvM} {σ : St} {Q : VK} {e o tg : Expr} {es : List Expr} {f fo fe : EF} {l : LF} {pos p apos cpos : Pos}
def bIntT (ds : List D) (M : List D) : R := match ds with
  | [d] => (match view M d with
    | .int i => .ok (.int i) M
    | .str z => (match PySem.intText? z with
      | some n => if z.length ≤ 640 then .ok (.int n) M else .stuck
      | none => .stuck)
    | _ => .stuck)
  | _ => .stuck
theorem call_intT : CallS X (DE X.K) (.type "int") bIntT := by
  intro pins s σ H F Ad M E xs us ds Q I m rv x r
  unfold bIntT at r
  split at r
  · rename_i d
    obtain ⟨v, rfl, hx⟩ := x.one
    have ax := DB.view m hx
    split at r
    · rename_i i e; rw [e] at ax
      exact call_int1 pins s σ H _ us Q I rv (.inl ⟨i, by rw [ax.int], RP.here r m .int⟩)
    · rename_i z e; rw [e] at ax
      split at r
      · rename_i n hn
        split at r
        · rename_i hl
          exact call_int_str pins s σ H _ us Q I rv ⟨z, n, by rw [ax.str], hn, hl, RP.here r m .int⟩
        · exact r.elim
      · exact r.elim
    · exact r.elim
  · exact r.elim
theorem denL_txs : ∀ ys : List Str, DenL K F Ad (ys.map V.str) (ys.map D.str)
  | [] => .nil
  | y :: ys => .cons .str (denL_txs ys)
def splitR (x y : D) (M : List D) : R := match x, view M y with
  | .str a, .str b => if (b.length == 0) = false ∧ a.length + 2 ≤ sizeLine then .ok (.lst ((Txt.split a b).map .str)) M else .stuck
  | _, _ => .stuck
def isTx : D → Bool
  | .str _ => true
  | _ => false
def eTx (g : D → D → List D → R) (fo fe : EF) : EF := fun env M => (fo env M).bind fun x M1 => guD (isTx (view M1 x)) ((fe env M1).bind fun y M2 => g (view M1 x) y M2)
theorem isTx_of {x : V} {dx : D} (m : MemOk K F Ad M H) (ax : DV K F Ad H x dx) (h : isTx dx = true) : ∃ a, dx = .str a ∧ x = .str a := by
  cases dx with
  | str a => exact ⟨a, rfl, ax.str⟩
  | _ => cases h
theorem se_split (ho : SB X W o fo) (he : SB X W e fe) (hs : starEach [e] X.env = [(false, eval e X.env)] := by rfl) (hbase : attributeBase o "split" X.env (eval o X.env) = eval o X.env := by rfl) (hline : (apos.endLine == pos.line) = true := by rfl) :
    SE X W (.Call (.Attribute o "split" apos) [e] [] pos) (eTx splitR fo fe) :=
  PE.imp (pe_split ho he hs hbase hline) fun σ H Q ⟨N0, F, Ad, M, env, m, en, r⟩ => tG_seq DE.ok m en r fun d M1 v F1 Ad1 H1 g1 m1 en1 x1 r1 => by
    unfold guD at r1
    split at r1
    · rename_i hd
      obtain ⟨a, ea, rfl⟩ := isTx_of m1 (DB.view m1 x1) hd
      rw [ea] at r1
      refine ⟨⟨a, rfl⟩, tG_seq DE.ok m1 en1 r1 fun d2 M2 v2 F2 Ad2 H2 g2 m2 en2 x2 r2 => ?_⟩
      have ay := DB.view m2 x2
      unfold splitR at r2
      split at r2
      · rename_i a' b e1 e2
        cases e1
        rw [e2] at ay
        split at r2
        · rename_i hh
          refine ⟨a, b, rfl, by rw [ay.str], hh.1, hh.2, fun p hp => ?_⟩
          exact RP.newLst r2 m2 (denL_txs _) hp
        · exact r2.elim
      · exact r2.elim
    · exact r1.elim
inductive SJ (X : Cx) (W : WX) : List Expr → List EF → Prop where
  | nil : SJ X W [] []
  | cons {e : Expr} {f : EF} {es : List Expr} {fs : List EF} (h : SE X W e f) (r : SJ X W es fs) : SJ X W (e :: es) (f :: fs)
def oInS (x y : D) (M : List D) : R := match view M x, view M y with
  | .str c, .str z => (match c.cps.toList with
    | [k] => .ok (.bl (decide (k ∈ z.cps.toList))) M
    | _ => .stuck)
  | _, _ => .stuck
theorem op2_inS : Op2 X (DE X.K) (compareOp .In) oInS := by
  intro pins s σ H F Ad M E x y v u dx dy Q I m rx ry hx hy r
  have ax := DB.view m hx
  have ay := DB.view m hy
  unfold oInS at r
  split at r
  · rename_i c z e1 e2
    rw [e1] at ax
    rw [e2] at ay
    split at r
    · rename_i k ek
      have ec : c = ⟨#[k]⟩ := by
        obtain ⟨cs⟩ := c
        have : cs.toList = [k] := ek
        congr 1
        rw [← Array.toArray_toList (xs := cs), this]
      exact op_in_sign pins s σ H x y v u Q I rx ry ⟨k, z, by rw [ax.str, ec], ay.str, RP.here r m .bl⟩
    · exact r.elim
  · exact r.elim
def signsD (z : Str) : List D := z.cps.toList.map fun c => .str ⟨#[c]⟩
def iTxt (f : EF) : LF := fun env M => (f env M).bindL fun d M1 => match d with
  | .str z => .ok (signsD z) M1
  | _ => .stuck
theorem it_s {z : Str} : ItOk K F Ad [] (Its z) (signsD z) where
  go := fun i F' Ad' M' H' hi l p m _ => by
    have : i < (signsD z).length := hi
    show i < z.cps.size
    simpa [signsD] using this
  stop := fun F' Ad' M' H' l p m _ => by
    show z.cps.size ≤ (signsD z).length
    simp [signsD]
  yld := fun i F' Ad' M' H' x H'' hi l p m _ ⟨e1, c, e2, e3⟩ => by
    subst e1; subst e3
    refine ⟨.str ⟨#[c]⟩, F', ?_, Gr.refl, m, .str⟩
    unfold signsD
    rw [List.getElem?_map, Array.getElem?_toList, e2]; rfl
theorem si_txt (h : SE X W e f) : SI X W true tg e (iTxt f) := PI.imp (pi_str h) fun σ H R ⟨N0, F, Ad, M, env, m, en, r⟩ => by
  unfold iTxt at r
  cases q : f env M with
  | ok d M1 =>
    rw [q, MP.R.bindL_ok] at r
    cases d with
    | str z => exact ⟨N0, F, Ad, M, env, m, en, by rw [q]; exact fun v F1 Ad1 H1 g1 m1 x1 => ⟨z, by cases x1; rfl, r _ [] F1 Ad1 H1 g1 m1 it_s (fun _ z => nomatch z) (fun _ z => nomatch z) fun _ => rfl⟩⟩
    | _ => exact r.elim
  | exc x M1 => rw [q] at r; exact ⟨N0, F, Ad, M, env, m, en, by rw [q]; exact r⟩
  | stuck => rw [q] at r; exact r.elim
end
end MP
set_option maxRecDepth 100000
set_option maxHeartbeats 1000000
namespace MP
open PySem PySem.Spec PyProof.Rows L2
variable [TabsP] [ThkP]
section
variable {X : Cx} {W : WX} {K : PySem.W.Frag} {DR : DRel} {N0 : Ent} {F H : Hp} {Ad : List Addr} {M : List D} {env : EnvM} {σ : St} {Q : VK} {e o tg : Expr} {es : List Expr} {f fo fe : EF} {l : LF} {pos p apos cpos : Pos} {k n : Nat} {g : Addr} {dd : List D} {c : List D → List D → R}
def oIsntB (x y : D) (M : List D) : R := match view M x, view M y with
  | .bl a, .bl b => .ok (.bl (!(a == b))) M
  | _, _ => .stuck
theorem op2_isntB : Op2 X (DE X.K) (compareOp .IsNot) oIsntB := by
  intro pins s σ H F Ad M E x y v u dx dy Q I m rx ry hx hy r
  have ax := DB.view m hx
  have ay := DB.view m hy
  unfold oIsntB at r
  split at r
  · rename_i a b e1 e2
    rw [e1] at ax
    rw [e2] at ay
    rw [ax.bl] at rx
    rw [ay.bl] at ry
    obtain rfl : v = Value.bool a := rx
    obtain rfl : u = Value.bool b := ry
    have k : EP X pins σ Q (.bool (!(a == b))) s := ⟨.bl _, H, I, rfl, RP.here r m .bl⟩
    cases a <;> cases b <;> exact wpAny_pure k
  · exact r.elim
structure TgsG (K : PySem.W.Frag) (js : List Nat) (ga : List D → EnvM → Option EnvM) (g : TGs) : Prop where
  ok : ∀ (N0 : Ent) (F : Hp) Ad M H σ env vs ds env' (Q : St → Hp → Prop), MemOk K F Ad M H → EnvOk K N0 F Ad H σ env → DenL K F Ad vs ds → ga ds env = some env' → (∀ σ', EnvOk K N0 F Ad H σ' env' → (∀ us, (∀ j ∈ js, j ∈ us) → wipe σ' us = wipe σ us) → Q σ' H) → g vs σ H Q
end
end MP
set_option maxRecDepth 100000
set_option maxHeartbeats 1000000
namespace MP
open PySem PySem.Spec PyProof.Rows L2
variable [TabsP] [ThkP]
section
variable {X : Cx} {W : WX} {K : PySem.W.Frag} {DR : DRel} {N0 : Ent} {F H : Hp} {Ad : List Addr} {M : List D} {env : EnvM} {σ : St} {Q : VK} {e o tg : Expr} {es : List Expr} {f fo fe : EF} {l : LF} {pos p apos cpos : Pos} {k n : Nat} {g : Addr} {dd : List D} {c : List D → List D → R}
inductive DispOk (X : Cx) (n : Nat) : List (Str × (List D → List D → R)) → Prop where
  | nil : DispOk X n []
  | cons {x : Str} {k : Nat} {c : List D → List D → R} {r : List (Str × (List D → List D → R))} (Fk : FnX X (DE X.K) k n (He.ga X.K x) [] c) (hr : MP.Room k X.A) (t : DispOk X n r) : DispOk X n ((x, c) :: r)
theorem DispOk.get {n : Nat} {x : Str} {c : List D → List D → R} : ∀ {l : List (Str × (List D → List D → R))}, DispOk X n l → l.lookup x = some c → ∃ k, MP.Room k X.A ∧ FnX X (DE X.K) k n (He.ga X.K x) [] c
  | _, .nil, e => by cases e
  | _, .cons (x := y) Fk hr t, e => by
    rw [List.lookup_cons] at e
    split at e
    · rename_i h
      cases e
      obtain rfl := beq_iff_eq.mp h
      exact ⟨_, hr, Fk⟩
    · exact t.get e
def eLoc (i n : Nat) (disp : List (Str × (List D → List D → R))) (l : LF) : EF := fun env M => match env[i]? with
  | some (.shr (.cls x)) => (match disp.lookup x with
    | some c => (l env M).bind fun xs M1 => apC c n [] xs M1
    | none => .stuck)
  | _ => .stuck
theorem se_loc {i : Nat} {x : Str} {disp : List (Str × (List D → List D → R))} (dk : DispOk X n disp) (hx : Pas X W) (hN : X.N[i]? = some x) (hv : Vis X.env.scope x) (ha : SL X W (e :: es) l) (hdb : (x == ("__debug__" : Str)) = false := by decide) (hcd : (x == ("__classdict__" : Str)) = false := by decide)
    (he : starEach (e :: es) X.env = (false, eval e X.env) :: starEach es X.env := by rfl) (hpl : (backTo pos (starEach es X.env)).any (·.1) = false := by rfl) : SE X W (.Call (.Name x p) (e :: es) [] pos) (eLoc i n disp l) := by
  refine ⟨fun pins s σ H Q I ⟨N0, F, Ad, M, env, m, en, r⟩ => ?_⟩
  unfold eLoc at r
  split at r
  · rename_i x' hi
    split at r
    · rename_i c q
      obtain ⟨k, hr, Fk⟩ := dk.get q
      obtain ⟨fd, ps, dvs, ws, Fo, hb, hvs, hd, hk⟩ := id Fk.ex
      obtain ⟨v0, hs0, x0⟩ := en.shr i _ hi
      cases x0
      refine wpAny_Call_Name_kw (thn ((pe_var (pos := p) hN hv hdb hcd).run pins s σ H (fun v H1 => v = .ref (He.ga X.K x') ∧ H1 = H) I ⟨_, hs0, rfl, rfl⟩) fun u s1 ⟨v, H1, I1, r1, q1⟩ => ?_)
      obtain ⟨rfl, rfl⟩ := q1
      obtain rfl : u = Value.ref _ := r1
      refine PySem.W.callWith_K (h₀ := X.base) I.ok.mod.kin hk (thn (ha.run pos pins s1 σ _ _ I1 (tL_seq DE.ok m en r (Q' := fun vs H2 => ∃ F2 Ad2 M2 ds, MemOk X.K F2 Ad2 M2 H2 ∧ DenL X.K F2 Ad2 vs ds ∧ RP X.K (fun c d H => W c d σ H) (DE X.K) F2 Ad2 H2 Q (apC c n [] ds M2)) fun ds M2 vs F2 Ad2 H2 g2 m2 en2 x2 r2 =>
        ⟨F2, Ad2, M2, ds, m2, x2, r2⟩)) fun us s2 ⟨vs, H2, I2, rv, F2, Ad2, M2, ds, m2, x2, r2⟩ => ⟨I2.kIn, ?_⟩) he hpl
      exact run_fnK Fk hr hx I2 m2 rv x2 r2
    · exact r.elim
  · exact r.elim
abbrev Tb : Type := Str × List (Str × He.Dv)
abbrev AlMT : Type := AlM × List (Option (List (Option (Str × Int))) × Bool)
def obsMT (fa : List He.Fa) (fm : List Fm) (fn : List DefM) (ts : List Tb) (K : PySem.W.Frag) : AlMT := (obsM fa fm fn K, ts.map fun t => (He.dicW K (He.ga K t.1), He.valsB K (He.ga K t.1) t.2))
def valMT (fn : List DefM) (ts : List Tb) (w : World) : AlMT := (valM fn, ts.map fun t => (some (He.keysIn w.params (t.2.map (·.1))), true))
def SaysMT (fa : List He.Fa) (fm : List Fm) (fn : List DefM) (ts : List Tb) (w : World) (K : PySem.W.Frag) : Prop := obsMT fa fm fn ts K = valMT fn ts w
section
variable {fa : List He.Fa} {fm : List Fm} {fn : List DefM} {ts : List Tb} {w : World}
theorem SaysMT.m (c : SaysMT fa fm fn ts w K) : SaysM fa fm fn K := congrArg (fun z : AlMT => z.1) c
theorem SaysMT.a (c : SaysMT fa fm fn ts w K) (i : Nat) {f : He.Fa} (h : fa[i]? = some f) : f.ok K = true := c.m.a i h
theorem SaysMT.b (c : SaysMT fa fm fn ts w K) (i : Nat) {f : Fm} (h : fm[i]? = some f) : f.ok K = true := c.m.b i h
theorem SaysMT.d (c : SaysMT fa fm fn ts w K) (i : Nat) {d : DefM} (h : fn[i]? = some d) : ∃ fd, FunD K d.name d.qual d.params d.body d.scope (d.dvs K) (d.kws K) (d.loc.at_ K) fd := c.m.d i h
structure TbOk (K : PySem.W.Frag) (w : World) (x : Str) (vs : List (Str × He.Dv)) : Prop where
  kd : ∃ es n, KDict K w (He.ga K x) es n
  vl : He.valsB K (He.ga K x) vs = true
theorem SaysMT.t (c : SaysMT fa fm fn ts w K) (i : Nat) {t : Tb} (h : ts[i]? = some t) : TbOk K w t.1 t.2 := by
  have e : ts.map (fun t => (He.dicW K (He.ga K t.1), He.valsB K (He.ga K t.1) t.2)) = ts.map fun t => (some (He.keysIn w.params (t.2.map (·.1))), true) := congrArg (fun z : AlMT => z.2) c
  have e2 := congrArg (fun l : List (Option (List (Option (Str × Int))) × Bool) => l[i]?) e
  simp only [List.getElem?_map, h, Option.map_some, Option.some.injEq, Prod.mk.injEq] at e2
  exact ⟨He.dicW_ok e2.1, e2.2⟩
def hookLT (as : List Addr) (fa : List He.Fa) (fm : List Fm) (fn : List DefM) (ts : List Tb) : PySem.W.Hook where
  α := AlMT
  obs := fun s => obsMT fa fm fn ts (He.frG s.heap.get? as)
  val := fun w => valMT fn ts w
  says := fun w h => ∃ K : PySem.W.Frag, K.In h ∧ SaysMT fa fm fn ts w K
  of := fun _ _ e => ⟨_, He.frG_in, e⟩
  keeps := fun _ _ _ ⟨K, hK, c⟩ k => ⟨K, PySem.W.Frag.In.keeps hK k, c⟩
def obLT (as : List Addr) (fa : List He.Fa) (fm : List Fm) (fn : List DefM) (ts : List Tb) (g : Addr → Option Obj) : AlMT := obsMT fa fm fn ts (He.frG g as)
theorem obLT_eq {as : List Addr} {g : Addr → Option Obj} {s : Shared} (h : ∀ a, g a = s.heap.get? a) : obLT as fa fm fn ts g = (hookLT as fa fm fn ts).obs s := by
  have e : g = s.heap.get? := funext h
  subst e
  rfl
end
def dvD : He.Dv → D
  | .int i => .int i
  | .str z => .str z
  | .glo x => .cls x
  | _ => .non
def dvOk : He.Dv → Bool
  | .int _ => true
  | .str _ => true
  | .glo _ => true
  | _ => false
theorem dv_den {v : He.Dv} (h : dvOk v = true) : Den K F Ad (v.v K) (dvD v) := by
  cases v with
  | int i => exact .int
  | str z => exact .str
  | glo x => exact .cls
  | _ => cases h
def lookT (vs : List (Str × He.Dv)) (z : Str) : Option D := match vs.find? fun q => decide (q.1 = z) with
  | some q => if dvOk q.2 = true then some (dvD q.2) else none
  | none => none
def tabR (vs : List (Str × He.Dv)) (y : D) (M : List D) : R := match view M y with
  | .str z => (match lookT vs z with
    | some d => .ok d M
    | none => .stuck)
  | _ => .stuck
theorem lookT_ok {w : World} {x z : Str} {vs : List (Str × He.Dv)} {d : D} (t : TbOk K w x vs) (h : lookT vs z = some d) : ∃ es n u v, KDict K w (He.ga K x) es n ∧ PySem.W.nsIn K (He.ga K x) z = some (some u) ∧ RelV v u ∧ Den K F Ad v d := by
  unfold lookT at h
  split at h
  · rename_i q hq
    split at h
    · rename_i hd
      cases h
      have e1 : q.1 = z := by simpa using List.find?_some hq
      obtain ⟨u, h1, h2⟩ := He.valsB_ok t.vl (List.mem_of_find?_eq_some hq)
      obtain ⟨es, n, kd⟩ := t.kd
      rw [e1] at h1
      exact ⟨es, n, u, _, kd, h1, h2, dv_den hd⟩
    · cases h
  · cases h
def eTabIx (vs : List (Str × He.Dv)) (f : EF) : EF := fun env M => (f env M).bind (tabR vs)
theorem se_tabIx {x : Str} {vs : List (Str × He.Dv)} (t : TbOk X.K X.w x vs) (ho : PE X (.Name x p) (fun _ H Q => Q (.ref (He.ga X.K x)) H)) (he : SE X W e f) (hs : PlainIx e := by exact fun _ _ => rfl) : SE X W (.Subscript (.Name x p) e pos) (eTabIx vs f) :=
  PE.imp (pe_ix ix_kdict ho he hs) fun σ H Q ⟨N0, F, Ad, M, env, m, en, r⟩ => by
    show tG X.K W (DE X.K) f σ H _
    refine tG_seq DE.ok m en r fun d M1 v F1 Ad1 H1 g1 m1 en1 x1 r1 => ?_
    have ax := DB.view (H0 := H1) m1 (.inl x1)
    unfold tabR at r1
    split at r1
    · rename_i z e1
      rw [e1] at ax
      split at r1
      · rename_i d' h
        obtain ⟨es, n, u, v', kd, h1, h2, h3⟩ := lookT_ok (F := F1) (Ad := Ad1) t h
        exact ⟨_, z, v', rfl, ax.str, ⟨es, n, u, kd.at_, kd.lit, h1, h2⟩, RP.here r1 m1 h3⟩
      · exact r1.elim
    · exact r1.elim
end
end MP
set_option maxRecDepth 100000
set_option maxHeartbeats 1000000
namespace MP
open PySem PySem.Spec PyProof.Rows L2
variable [TabsP] [ThkP]
section
variable {X : Cx} {W : WX} {K : PySem.W.Frag} {F H : Hp} {Ad : List Addr} {M : List D} {env : EnvM} {σ : St} {Q : VK} {e o tg : Expr} {es : List Expr} {f fo fe : EF} {l : LF} {pos p apos cpos : Pos}
def bLstOf (ds : List D) (M : List D) : R := match ds with
  | [d] => (match view M d with
    | .lst xs => .ok (.lst xs) M
    | .tup xs => .ok (.lst xs) M
    | _ => .stuck)
  | _ => .stuck
theorem call_lstS : CallS X (DO X.K) (.type "list") bLstOf := by
  intro pins s σ H F Ad M E xs us ds Q I m rv x r
  unfold bLstOf at r
  split at r
  · rename_i d
    obtain ⟨v, rfl, hx⟩ := x.one
    have ax := DB.view m hx
    split at r
    · rename_i ys e; rw [e] at ax; obtain ⟨a, vs, rfl, h1, h2⟩ := ax.lst m
      exact call_list_of pins s σ H _ us Q I rv ⟨a, vs, rfl, .inl (SqL.of h1), fun p hp => RP.ownLst r m h2 hp⟩
    · rename_i ys e; rw [e] at ax
      obtain ⟨a, vs, rfl, h1, h2⟩ := ax.tup m
      exact call_list_of pins s σ H _ us Q I rv ⟨a, vs, rfl, .inr (h1), fun p hp => RP.ownLst r m h2 hp⟩
    · exact r.elim
  · exact r.elim
end
end MP
set_option maxRecDepth 100000
set_option maxHeartbeats 1000000
namespace MP
open PySem PySem.Spec PyProof.Rows L2
variable [TabsP] [ThkP]
theorem draws_tup {prog : Program} {w : World} {A : Around} (hh : A.handled = none) (it l : Addr) (hne : l ≠ it) (items : Array Value) :
    Draws prog w A it [it, l] items.size (fun i v => items[i]? = some v) (fun i h => h.IsTupleIter it l i ∧ h.IsTuple l items) where
  live := fun _ _ st => let ⟨o, ho, _⟩ := st.1; ⟨o, ho⟩
  frame := fun _ _ _ st hk => ⟨st.1.at fun o e => hk it (by simp) o e, let ⟨o, e, r⟩ := st.2; ⟨o, hk l (by simp) o e, r⟩⟩
  item := fun i s Q E hi st hQ => by
    refine RZ.nextOf_tuple_item st.1 st.2 (x := items[i]) (by simp [hi]) fun h' hit' hs' => ?_
    exact hQ _ h' s.toks (by simp [hi]) ⟨hit', st.2.extBut hs'.extBut hne⟩ hs'
  done := fun s Q E st hE => RZ.nextOf_tuple_end hh st.1 st.2 (by simp) hE
abbrev zmH1 (h : Heap) (l1 : Addr) : Heap := h.push { cls := .type "list_iterator", data := .fields #[.ref l1, .int 0 0] }
abbrev zmH2 (h : Heap) (l1 l2 : Addr) : Heap := (zmH1 h l1).push { cls := .type "tuple_iterator", data := .fields #[.ref l2, .int 0 0] }
abbrev zmH3 (h : Heap) (l1 l2 : Addr) : Heap := (zmH2 h l1 l2).push { cls := .type "tuple", data := .seq #[.ref h.objs.size, .ref (zmH1 h l1).objs.size] }
abbrev zmH4 (h : Heap) (l1 l2 : Addr) : Heap := (zmH3 h l1 l2).push { cls := .type "tuple", data := .seq #[.none, .none] }
abbrev zmH5 (h : Heap) (l1 l2 : Addr) : Heap := (zmH4 h l1 l2).push { cls := .type "zip", data := .fields #[.none, .bool false, .bool false, .ref (zmH2 h l1 l2).objs.size, .ref (zmH3 h l1 l2).objs.size] }
theorem meets_zm (l1 l2 : Addr) (xs ys : Array Value) :
    Meets (Builtin.«zip.__new__» ⟨[.type "zip", .ref l1, .ref l2], []⟩) (fun _ R s => s.heap.IsList l1 xs ∧ s.heap.IsTuple l2 ys ∧
      R (.ok (.ret (.ref (zmH4 s.heap l1 l2).objs.size))) { s with heap := zmH5 s.heap l1 l2 }) :=
  .of_wp fun prog w A R s h => by
    obtain ⟨hp, g, d, tk, os⟩ := s; obtain ⟨hl1, hl2, h⟩ := h
    have hsub := sub_zip
    have hL1 : Heap.IsList (Shared.heap ⟨hp, g, d, tk, os⟩) l1 xs := hl1
    have hL2 : Heap.IsTuple (Shared.heap ⟨hp.push { cls := .type "list_iterator", data := .fields #[.ref l1, .int 0 0] }, g, d, tk, os⟩) l2 ys := Heap.IsTuple.push hl2 _
    wp_walk using wpAny_pyIter_list hL1, wpAny_pyIter_tuple hL2
    exact ⟨_, rfl, h⟩
theorem call_zm {prog : Program} {w : World} {A : Around} {E : Value → Shared → Prop} {s : Shared} {l1 l2 : Addr} {xs ys : Array Value} {Q : Value → Shared → Prop} (hl1 : s.heap.IsList l1 xs) (hl2 : s.heap.IsTuple l2 ys)
    (h : ∀ h', IsZip h' (s.heap.objs.size + 4) (s.heap.objs.size + 2) (s.heap.objs.size + 3) .none → IsPair h' (s.heap.objs.size + 2) (.ref s.heap.objs.size) (.ref (s.heap.objs.size + 1)) →
      IsPair h' (s.heap.objs.size + 3) .none .none → h'.IsListIter s.heap.objs.size l1 0 → h'.IsTupleIter (s.heap.objs.size + 1) l2 0 → (∀ c o, s.heap.get? c = some o → h'.get? c = some o) → Q (.ref (s.heap.objs.size + 4)) { s with heap := h' }) :
    wpAny (model prog w) A (call (.type "zip") [.ref l1, .ref l2]) Q E s := by
  refine callType_new F.called_zip (by decide) (F.typeCall_zip_2 _ _) (F.newCall_zip_2 _ _) (fun obj => F.args_object_init_3 obj _ _) F.entry_zip_new (meets_zm l1 l2 xs ys) ⟨hl1, hl2, ?_⟩
  have z1 : (zmH1 s.heap l1).objs.size = s.heap.objs.size + 1 := Heap.size_push ..
  have z2 : (zmH2 s.heap l1 l2).objs.size = s.heap.objs.size + 2 := by rw [Heap.size_push, z1]
  have z3 : (zmH3 s.heap l1 l2).objs.size = s.heap.objs.size + 3 := by rw [Heap.size_push, z2]
  have z4 : (zmH4 s.heap l1 l2).objs.size = s.heap.objs.size + 4 := by rw [Heap.size_push, z3]
  have up : ∀ (h : Heap) (o : Obj) c u, h.get? c = some u → (h.push o).get? c = some u := fun h o c u e => Heap.get?_push_of_some _ e
  have g1 : (zmH5 s.heap l1 l2).get? s.heap.objs.size = some _ := up _ _ _ _ (up _ _ _ _ (up _ _ _ _ (up _ _ _ _ (Heap.get?_push_size _ rfl))))
  have g2 : (zmH5 s.heap l1 l2).get? (zmH1 s.heap l1).objs.size = some _ := up _ _ _ _ (up _ _ _ _ (up _ _ _ _ (Heap.get?_push_size _ rfl)))
  have g3 : (zmH5 s.heap l1 l2).get? (zmH2 s.heap l1 l2).objs.size = some _ := up _ _ _ _ (up _ _ _ _ (Heap.get?_push_size _ rfl))
  have g4 : (zmH5 s.heap l1 l2).get? (zmH3 s.heap l1 l2).objs.size = some _ := up _ _ _ _ (Heap.get?_push_size _ rfl)
  have g5 : (zmH5 s.heap l1 l2).get? (zmH4 s.heap l1 l2).objs.size = some _ := Heap.get?_push_size _ rfl
  show _ ∧ _
  rw [z2, z3, z4] at g5
  rw [z1, z2] at g3
  rw [z3] at g4
  rw [z1] at g2
  rw [z4]
  exact ⟨⟨_, g5, rfl⟩, h _ g5 g3 g4 ⟨_, g1, rfl, rfl⟩ ⟨_, g2, rfl, rfl⟩ fun c o x => up _ _ _ _ (up _ _ _ _ (up _ _ _ _ (up _ _ _ _ (up _ _ _ _ x))))⟩
def ItzM (K : PySem.W.Frag) (a b : Addr) (na nb : Nat) : It :=
  ⟨fun i H => ∃ xs ys : List V, SqL K H a xs ∧ SqT K H b ys ∧ xs.length = na ∧ ys.length = nb ∧ i < na ∧ i < nb,
    fun i H v H' => ∃ T x y, v = .ref T ∧ H T = none ∧ H' = upd H T (.tup [x, y]) ∧ (∀ xs, SqL K H a xs → xs[i]? = some x) ∧ ∀ ys, SqT K H b ys → ys[i]? = some y,
    fun i H => ∃ xs ys : List V, SqL K H a xs ∧ SqT K H b ys ∧ xs.length = na ∧ ys.length = nb ∧ i ≤ na ∧ i ≤ nb ∧ (i = na ∨ i = nb)⟩
theorem sep_of {z TI TO i1 i2 a b : Addr} (D : ZipApart z TI TO i1 i2 a b) : ZipSep2 z TI TO i1 i2 [i1, a] [i2, b] where
  TIz := D.TIz
  TOz := D.TOz
  TITO := D.TITO
  TIi1 := D.TIi1
  mem1 := by simp
  zf1 := by simp; exact ⟨D.i1z.symm, D.l1z.symm⟩
  Tf1 := by simp; exact ⟨D.TOi1, D.l1TO.symm⟩
  TIi2 := D.TIi2
  mem2 := by simp
  zf2 := by simp; exact ⟨D.i2z.symm, D.l2z.symm⟩
  Tf2 := by simp; exact ⟨D.TOi2, D.l2TO.symm⟩
  sep1_2 := by simp; exact ⟨D.i12, D.l2i1.symm⟩
  sep2_1 := by simp; exact ⟨D.i12.symm, D.l1i2.symm⟩
theorem turn_zm {P : Program} {w : World} {K : PySem.W.Frag} {elts : List Expr} {kk : Nat} {tpos : Pos} {a b z TI TO i1 i2 : Addr} {na nb : Nat} (D : ZipApart z TI TO i1 i2 a b) :
    Turn P w K (.Tuple elts kk tpos) (ItzM K a b na nb) [z, TI, TO, i1, i2] z (fun i h => IsZip h z TI TO .none ∧ IsPair h TI (.ref i1) (.ref i2) ∧ (∃ x y, IsPair h TO x y) ∧ h.IsListIter i1 a i ∧ h.IsTupleIter i2 b i) where
  mem := by simp
  obj := fun i h st c hc => by
    obtain ⟨hz, hTI, ⟨x, y, hTO⟩, ⟨o1, e1, _, d1⟩, ⟨o2, e2, _, d2⟩⟩ := st
    have e' : c = z ∨ c = TI ∨ c = TO ∨ c = i1 ∨ c = i2 := by simpa using hc
    rcases e' with rfl | rfl | rfl | rfl | rfl
    · exact ⟨_, hz, fun v q => nomatch q⟩
    · exact ⟨_, hTI, fun v q => nomatch q⟩
    · exact ⟨_, hTO, fun v q => nomatch q⟩
    · exact ⟨o1, e1, fun v q => by rw [d1] at q; cases q⟩
    · exact ⟨o2, e2, fun v q => by rw [d2] at q; cases q⟩
  keep := fun i h h' st k => by
    obtain ⟨hz, hTI, ⟨x, y, hTO⟩, h1, h2⟩ := st
    exact ⟨k z (by simp) _ hz, k TI (by simp) _ hTI, ⟨x, y, k TO (by simp) _ hTO⟩, h1.at fun o q => k i1 (by simp) o q, h2.at fun o q => k i2 (by simp) o q⟩
  item := by
    intro X hP hw hK hc i pins s σ H E I hf st hg
    subst hP hw hK
    obtain ⟨hz, hTI, ⟨x0, y0, hTO⟩, h1, h2⟩ := st
    obtain ⟨xs, ys, hqx, hqy, lx, ly, ia, ib⟩ := hg
    obtain ⟨its, rv, p, _⟩ := I.list hqx
    obtain ⟨its2, rv2, p2, _⟩ := I.tuple hqy
    have e1 := rv.length
    have e2 := rv2.length
    have hzl : z < s.heap.objs.size := Heap.lt_size hz
    have D1 : Draws X.prog X.w X.A.in1 i1 [i1, a] its.toArray.size (fun i v => its.toArray[i]? = some v) _ := Draws.list (show X.A.in1.handled = none from I.ok.hd hc) i1 a D.l1i1 its.toArray
    have D2 : Draws X.prog X.w X.A.in1 i2 [i2, b] its2.toArray.size (fun i v => its2.toArray[i]? = some v) _ := draws_tup (show X.A.in1.handled = none from I.ok.hd hc) i2 b D.l2i2 its2.toArray
    refine wpAny_pyNext_zipD2_item (sep_of D) D1 D2 hz hTI hTO ⟨h1, p.isList⟩ ⟨h2, p2⟩ (by simp; omega) (by simp; omega) fun u u2 h' tk hu hu2 z' TO' s1' s2' hT hsz hk => ?_
    refine ⟨_, rfl, wpAny_letOwnedTupleGo_zip (s := { s with heap := h', toks := tk }) z' fun h'' z'' sb => ?_⟩
    obtain ⟨x, hx, rx⟩ : ∃ x, xs[i]? = some x ∧ RelV x u := by
      have : i < xs.length := by omega
      obtain ⟨u', h3, h4⟩ := rv.get (List.getElem?_eq_getElem this)
      rw [List.getElem?_toArray, h3] at hu
      cases hu
      exact ⟨_, List.getElem?_eq_getElem this, h4⟩
    obtain ⟨y, hy, ry⟩ : ∃ y, ys[i]? = some y ∧ RelV y u2 := by
      have : i < ys.length := by omega
      obtain ⟨u', h3, h4⟩ := rv2.get (List.getElem?_eq_getElem this)
      rw [List.getElem?_toArray, h3] at hu2
      cases hu2
      exact ⟨_, List.getElem?_eq_getElem this, h4⟩
    have hT2 : h''.get? s.heap.objs.size = some { cls := .type "tuple", data := .seq #[u, u2] } := (sb.2 _ (Nat.ne_of_gt hzl)).trans hT
    have new : ObjOk X.prog X.w (upd H s.heap.objs.size (.tup [x, y])) h'' s.heap.objs.size (.tup [x, y]) :=
      ⟨by show 2 ≤ sizeLine; decide, [u, u2], .cons rx (.cons ry .nil), ⟨_, hT2, rfl, _, rfl⟩⟩
    have I1 : Inv X pins σ (upd H s.heap.objs.size (.tup [x, y])) { s with heap := h'', toks := tk } :=
      I.turnedNew (t' := tk) (ch := [z, TI, TO, i1, i2]) (fun c o hb q => (sb.2 c (fun q' => hb (by simp [q']))).trans (hk c o (fun q' => hb (by simp [q'])) (fun q' => hb (by simp [q'])) (fun q' => hb (by simp [q'])) (fun q' => hb (by simp [q'])) q)) hf (Nat.le_refl _) new
    refine ⟨.ref s.heap.objs.size, _, I1, rfl, ⟨_, x, y, rfl, I.hok.fresh (Nat.le_refl _), rfl, fun l hl => by rw [I.list_inj hl hqx]; exact hx, fun l hl => by rw [I.tuple_inj hl hqy]; exact hy⟩,
      ⟨z'', (sb.2 _ D.TIz).trans (hk _ _ D.TIz D.TITO D.TIi1 D.TIi2 hTI), ⟨u, u2, (sb.2 _ D.TOz).trans TO'⟩, s1'.1.at fun o q => (sb.2 _ D.i1z).trans q, s2'.1.at fun o q => (sb.2 _ D.i2z).trans q⟩, fun c hcm => ?_⟩
    have hlt : c < s.heap.objs.size := by
      have e' : c = z ∨ c = TI ∨ c = TO ∨ c = i1 ∨ c = i2 := by simpa using hcm
      rcases e' with q | q | q | q | q
      · rw [q]; exact hzl
      · rw [q]; exact Heap.lt_size hTI
      · rw [q]; exact Heap.lt_size hTO
      · rw [q]; obtain ⟨_, e1, _⟩ := h1; exact Heap.lt_size e1
      · rw [q]; obtain ⟨_, e2, _⟩ := h2; exact Heap.lt_size e2
    rw [upd_ne (Nat.ne_of_lt hlt)]
    exact (hf c hcm).1
  done := by
    intro X hP hw hK hc i pins s σ H E I hf st hg
    subst hP hw hK
    obtain ⟨hz, hTI, ⟨x0, y0, hTO⟩, h1, h2⟩ := st
    obtain ⟨xs, ys, hqx, hqy, lx, ly, ia, ib, hend⟩ := hg
    obtain ⟨its, rv, p, _⟩ := I.list hqx
    obtain ⟨its2, rv2, p2, _⟩ := I.tuple hqy
    have e1 := rv.length
    have e2 := rv2.length
    have D1 : Draws X.prog X.w X.A.in1 i1 [i1, a] its.toArray.size (fun i v => its.toArray[i]? = some v) _ := Draws.list (show X.A.in1.handled = none from I.ok.hd hc) i1 a D.l1i1 its.toArray
    have D2 : Draws X.prog X.w X.A.in1 i2 [i2, b] its2.toArray.size (fun i v => its2.toArray[i]? = some v) _ := draws_tup (show X.A.in1.handled = none from I.ok.hd hc) i2 b D.l2i2 its2.toArray
    exact wpAny_pyNext_zipD2_end (sep_of D) D1 D2 hz hTI hTO ⟨h1, p.isList⟩ ⟨h2, p2⟩ (by simp; omega) (by simp; omega) (by simp; omega) fun h' tk hk => ⟨rfl, I.turnedL (t' := tk) (ch := [z, TI, TO, i1, i2]) (fun c o hb q =>
      hk c o (fun q' => hb (by simp [q'])) (fun q' => hb (by simp [q'])) (fun q' => hb (by simp [q'])) (fun q' => hb (by simp [q'])) q) hf⟩
  self := fun A i s Q E st h => wpAny_pyIter_zip st.1 h
def iZipM (K : PySem.W.Frag) (ta : TA) : TI := fun σ H R => ta σ H fun vs H1 => ∃ a b xs ys, vs = [.ref a, .ref b] ∧ SqL K H1 a xs ∧ SqT K H1 b ys ∧ R (ItzM K a b xs.length ys.length) H1
theorem pi_zm {X : Cx} {e e2 : Expr} {ta : TA} {p pos tpos : Pos} {elts : List Expr} {kk : Nat} (hg : Gl X "zip") (hm : X.mg "zip" = none) (ha : PA X [e, e2] ta)
    (hs : starEach [e, e2] X.env = (false, eval e X.env) :: starEach [e2] X.env := by rfl) (hpl : (backTo pos (starEach [e2] X.env)).any (·.1) = false := by rfl) :
    PI X (.Tuple elts kk tpos) (.Call (.Name "zip" p) [e, e2] [] pos) (iZipM X.K ta) := by
  refine ⟨fun pins s σ H R I h => ?_⟩
  refine Call_ (ld_blt I hg hm PyProof.Rows.boot_zip (PyProof.Rows.callWith_type1 (thn (ha.run pos pins s σ H _ I h) fun us s1 ⟨vs, H1, I1, r1, q1⟩ => ?_) hs hpl))
  obtain ⟨a, b, xs, ys, ex, hqx, hqy, q⟩ := q1
  subst ex
  cases r1 with
  | cons r rr =>
    cases rr with
    | cons r' rr =>
      cases rr
      cases r
      cases r'
      obtain ⟨its, rv, p1, _⟩ := I1.list hqx
      obtain ⟨its2, rv2, p2, _⟩ := I1.tuple hqy
      obtain ⟨o2, ho2, _⟩ := id p2
      refine call_zm p1.isList (show s1.heap.IsTuple b its2.toArray from p2) fun h' hz hTI hTO h1 h2 hk => wpAny_pyIter_zip hz ?_
      have I2 : Inv X pins σ H1 { s1 with heap := h' } := I1.kept (t' := s1.toks) hk
      refine ⟨s1.heap.objs.size + 4, [s1.heap.objs.size + 4, s1.heap.objs.size + 2, s1.heap.objs.size + 3, s1.heap.objs.size, s1.heap.objs.size + 1], _, _, H1, rfl, I2, turn_zm (PySem.W.ktu_apart s1.heap.objs.size a b p1.lt (Heap.lt_size ho2)), ⟨hz, hTI, ⟨_, _, hTO⟩, h1, h2⟩, fun c hcm => ?_, q⟩
      have hle : s1.heap.objs.size ≤ c := by
        have e' : c = s1.heap.objs.size + 4 ∨ c = s1.heap.objs.size + 2 ∨ c = s1.heap.objs.size + 3 ∨ c = s1.heap.objs.size ∨ c = s1.heap.objs.size + 1 := by simpa using hcm
        rcases e' with z | z | z | z | z <;> rw [z] <;> first | exact Nat.le_refl _ | exact Nat.le_add_right _ _
      exact I1.fpOk hle (I1.hok.fresh hle)
section
variable {X : Cx} {W : WX} {K : PySem.W.Frag} {F H : Hp} {Ad : List Addr} {M : List D} {env : EnvM} {σ : St} {Q : VK} {e e' : Expr} {f f' : EF} {pos p : Pos}
def zipD (xs ys : List D) : List D := (xs.zip ys).map fun q => .tup [q.1, q.2]
theorem it_zm {a b : Addr} {na nb : Nat} {xs ys : List D} (h : AtL K F Ad [] a xs) (h' : AtT K F Ad [] b ys) (ha : xs.length = na) (hb : ys.length = nb) : ItOk K F Ad [] (ItzM K a b na nb) (zipD xs ys) where
  go := fun i F' Ad' M' H' hi l p m k => by
    have hi : i < min xs.length ys.length := by simpa [zipD] using hi
    obtain ⟨vs, h1, h2⟩ := h F' Ad' M' H' l p m k
    obtain ⟨us, h3, h4⟩ := h' F' Ad' M' H' l p m k
    have e1 := h2.length
    have e2 := h4.length
    exact ⟨vs, us, h1, h3, by omega, by omega, by omega, by omega⟩
  stop := fun F' Ad' M' H' l p m k => by
    obtain ⟨vs, h1, h2⟩ := h F' Ad' M' H' l p m k
    obtain ⟨us, h3, h4⟩ := h' F' Ad' M' H' l p m k
    have e1 := h2.length
    have e2 := h4.length
    have e3 : (zipD xs ys).length = min xs.length ys.length := by simp [zipD]
    rw [e3]
    exact ⟨vs, us, h1, h3, by omega, by omega, by omega, by omega, by omega⟩
  yld := fun i F' Ad' M' H' x H'' hi l p m k ⟨T, y, z, ex, hT, e, q1, q2⟩ => by
    have hi : i < min xs.length ys.length := by simpa [zipD] using hi
    subst e; subst ex
    obtain ⟨vs, h1, h2⟩ := h F' Ad' M' H' l p m k
    obtain ⟨us, h3, h4⟩ := h' F' Ad' M' H' l p m k
    obtain ⟨v, d, a1, a2, a3⟩ := h2.lt (show i < xs.length by omega)
    obtain ⟨u, d2, b1, b2, b3⟩ := h4.lt (show i < ys.length by omega)
    rw [q1 vs h1] at a1; cases a1
    rw [q2 us h3] at b1; cases b1
    have fl := fle_new (o := .tup [y, z]) (m.none hT)
    refine ⟨.tup [d, d2], _, ?_, gr_new (o := .tup [y, z]) m hT, mem_new m hT, .tup (.inl upd_same) (.cons (a3.mono fl fun _ _ h => h) (.cons (b3.mono fl fun _ _ h => h) .nil))⟩
    rw [zipD, List.getElem?_map, (List.getElem?_zip_eq_some (z := (d, d2))).mpr ⟨a2, b2⟩]
    rfl
def iZip2 (f g : EF) : LF := fun env M => (f env M).bindL fun d M1 => (g env M1).bindL fun d2 M2 => match d, d2 with
  | .lst xs, .tup ys => .ok (zipD xs ys) M2
  | _, _ => .stuck
theorem si_zip {elts : List Expr} {kk : Nat} {tpos : Pos} (h : SE X W e f) (h' : SE X W e' f') (hg : Gl X "zip") (hm : X.mg "zip" = none) (hs : starEach [e, e'] X.env = (false, eval e X.env) :: starEach [e'] X.env := by rfl)
    (hs2 : starEach [e'] X.env = [(false, eval e' X.env)] := by rfl) (hpl : (backTo pos (starEach [e'] X.env)).any (·.1) = false := by rfl) :
    SI X W true (.Tuple elts kk tpos) (.Call (.Name "zip" p) [e, e'] [] pos) (iZip2 f f') := PI.imp (pi_zm hg hm (pa_cons h (sl_one h' hs2) hs) hs hpl) fun σ H R ⟨N0, F, Ad, M, env, m, en, r⟩ => by
  unfold iZip2 at r
  refine ⟨N0, F, Ad, M, env, m, en, ?_⟩
  cases q : f env M with
  | ok d M1 =>
    rw [q, MP.R.bindL_ok] at r
    show ∀ v F1 Ad1 H1, Gr F Ad H F1 Ad1 H1 → MemOk X.K F1 Ad1 M1 H1 → Den X.K F1 Ad1 v d → _
    intro v F1 Ad1 H1 g1 m1 x1
    refine ⟨N0, F1, Ad1, M1, env, m1, en.gr g1, ?_⟩
    cases q2 : f' env M1 with
    | ok d2 M2 =>
      rw [q2, MP.R.bindL_ok] at r
      intro v2 F2 Ad2 H2 g2 m2 x2
      cases d with
      | lst xs =>
        cases d2 with
        | tup ys =>
          cases x1 with
          | lst ha r1 =>
            cases x2 with
            | tup hb r2 =>
              have x1' := (Den.lst ha r1).mono g2.fle g2.pre
              cases x1' with
              | lst ha' r1' =>
                refine ⟨_, _, _, _, rfl, SqL.of (m2.sub _ _ (nrm_lst (by rw [ha']; rfl))), sqT_sub m2 hb.sq, ?_⟩
                rw [r1'.length, r2.length]
                exact r _ [] F2 Ad2 H2 (g1.trans g2) m2 (it_zm (atL_lst ha' r1') (atT_tup hb r2) rfl rfl) (fun _ z => nomatch z) (fun _ z => nomatch z) fun _ => rfl
        | _ => exact r.elim
      | _ => exact r.elim
    | exc x M2 => rw [q2] at r; exact fun cls dx F' Ad' H' g2 m2 x2 => r cls dx F' Ad' H' (g1.trans g2) m2 x2
    | stuck => rw [q2] at r; exact r.elim
  | exc x M1 => rw [q] at r; exact r
  | stuck => rw [q] at r; exact r.elim
end
end MP
set_option maxRecDepth 100000
set_option maxHeartbeats 1000000
namespace MP
open PySem PySem.Spec PyProof.Rows L2
variable [TabsP] [ThkP]
section
variable {X : Cx} {W : WX} {K : PySem.W.Frag} {DR : DRel} {N0 : Ent} {F H : Hp} {Ad : List Addr} {M : List D} {env : EnvM} {σ : St} {Q : VK} {a b c e : Expr} {f fa fb fc : EF} {pos p : Pos}
end
end MP
set_option maxRecDepth 100000
set_option maxHeartbeats 1000000
namespace XcX
open PySem PySem.W PySem.Calls PyProof.Rows PySem.HandSPX
section
open Builtin Builtin.ObjectAttr
variable {P : Program} {w : World} {A : Around} {R : Result → Shared → Prop} {hp : Heap} {gs : Array GenState} {dr : Drawn} {t : Nat} {os : OsState}
theorem put_first {K : W.Frag} {nm : Str} {tk : Tok} {v : Value} {x C t0 : Addr} {B : String} {bmB : List Value} (SF : StoreFacts B bmB "object.__setattr__" "object")
    (X : K.In hp) (hx : hp.get? x = some (excO C t0)) (ho : excOver K C bmB = true) (ht : takerIn K C nm = some none) (hh : hasDictIn K C = true)
    (hq : ∀ h' tk' dx, (∀ b o, b ≠ x → hp.get? b = some o → h'.get? b = some o) → hp.objs.size ≤ dx → dx ≠ x → h'.get? x = some { cls := .ref C, dict := some dx, data := .fields #[.ref t0, .none, .none, .none, .bool false, .none] } →
      h'.Ns1 dx (fun y => if y = nm then some v else none) → R (.ok (.ret .none)) ⟨h', gs, dr, tk', os⟩) :
    codeAny (model P w) A (.call (.builtin "object.__setattr__") ⟨[.ref x, .str nm tk, v], []⟩) R ⟨hp, gs, dr, t, os⟩ := by
  have nx : x ≠ hp.objs.size := Nat.ne_of_lt (Heap.lt_size hx)
  obtain ⟨cd, hc, hd'⟩ := any_some hh
  refine osa_openX (s := ⟨hp, gs, dr, t, os⟩) (od := none) (ox := excO C t0) SF X ⟨hx, rfl, rfl, trivial⟩ ho ht fun b => ?_
  have hcls : W.Looks (model P w) hp (classData C) cd := W.looks_clsIn X hc
  show wpAny _ _ (storeInOwnDict (.ref x) (.ref C) (.str nm tk) nm v b) _ _ _
  obtain ⟨nm', bs, mro, ns, qn, hd, sn, sb, ab, col, del⟩ := cd
  dsimp only at hd'
  subst hd'
  unfold storeInOwnDict ownDictForStores
  repeat (first | with_reducible refine store_in_new ?_ ?_ | with_reducible refine wpAny_loadPart_at hx ?_ | with_reducible refine hcls.at ?_ | wp_step)
  · exact ⟨_, #[], _, (Heap.get?_update_ne _ _ _ _ nx.symm).trans (Heap.get?_push_at rfl rfl), rfl, fun e he => absurd he (by simp), fun _ => rfl⟩
  · intro h' tk' hn' hs
    have hx1 : (hp.push { cls := .type "dict", data := .dict #[] }).get? x = some (excO C t0) := Heap.get?_push_of_some _ hx
    refine hq h' tk' hp.objs.size (fun b o hb he => ?_) (Nat.le_refl _) nx.symm ?_ hn'
    · exact (hs.2 b (Nat.ne_of_lt (Heap.lt_size he))).trans ((Heap.get?_update_ne _ _ _ _ hb).trans (Heap.get?_push_of_some _ he))
    · exact (hs.2 x nx).trans (Heap.get?_update_self _ hx1 rfl)
end
end XcX
namespace MP
open PySem PySem.Spec PyProof.Rows L2
variable [TabsP] [ThkP]
section
variable {X : Cx} {pins : List (Addr × Obj)} {σ : St} {H : Hp} {s : Shared} {a C fI : Addr} {f : Str} {y : V} {u : Value} {E : Value → Shared → Prop} {A : Around}
theorem xc_store {Q : Unit → Shared → Prop} (T : XcC X.K C fI f) (I : Inv X pins σ H s) (e : H a = some (exo a C none)) (ry : RelV y u)
    (h : ∀ dx s', H dx = none → dx ≠ a → Inv X pins σ (upd (upd H dx (exd dx [(f, y)])) a (exo a C (some dx))) s' → Q () s') : wpAny (model X.prog X.w) A (setAttr (.ref a) f u) Q E s := by
  obtain ⟨B, newId, initId, bmB, _, SF, _, ho⟩ := T.over
  obtain ⟨t1, hx⟩ := exo_at I.hok e
  obtain ⟨hp, gs, dr, tk, os⟩ := s
  refine PySem.W.set_plain I.kIn (ox := { cls := .ref C, dict := none, data := .fields #[.ref t1, .none, .none, .none, .bool false, .none] }) (od := none) ⟨hx, rfl, rfl, trivial⟩ T.sa ?_
  refine XcX.put_first SF I.kIn hx ho T.tk T.hd fun h' tk' dx k dn dne hx' hn => ?_
  have nd : H dx = none := I.hok.fresh dn
  have off : ∀ {b : Addr} {o : Obj}, hp.get? b = some o → b ≠ dx := fun {b o} q => Nat.ne_of_lt (Nat.lt_of_lt_of_le (Heap.lt_size q) dn)
  have offa : ∀ {b : Addr}, H b = none → b ≠ a := fun {b} n z => by rw [z, e] at n; cases n
  have other : ∀ {b : Addr} {o : HO}, H b = some o → o ≠ exo a C none → upd (upd H dx (exd dx [(f, y)])) a (exo a C (some dx)) b = some o := fun {b o} q n => by
    rw [upd_ne (fun z => by rw [z, e] at q; exact n (Option.some.inj q).symm), upd_ne (fun z => by rw [z, nd] at q; cases q)]; exact q
  have U : Un X.fs [] H (upd (upd H dx (exd dx [(f, y)])) a (exo a C (some dx))) hp h' :=
    ⟨fun b o q n _ _ => k b o (offa n) q, fun b o q n _ _ => ⟨o.slots, k b o (offa n) q⟩, fun b o q n _ => by rw [upd_ne (offa n), upd_ne (off q)]; exact n,
     fun b o q _ => by
      by_cases z : b = a
      · exact ⟨_, by rw [z]; exact hx'⟩
      · exact ⟨o, k b o z q⟩,
     fun b xs q => other q fun z => exo_tup z.symm, fun b o v q => other q fun z => exo_frz z.symm, fun b ps q => ⟨#[], by rw [other q fun z => exo_tbl z.symm]; simp⟩⟩
  refine h dx _ nd dne (I.un (t' := tk') U fun b o q => ?_)
  by_cases z : b = a
  · subst z; rw [upd_same] at q; cases q; exact exo_ok hx'
  · rw [upd_ne z] at q
    by_cases z2 : b = dx
    · subst z2; rw [upd_same] at q; cases q; exact exd_ok hn (relO_put (fs := []) ry fun g => True.intro)
    · rw [upd_ne z2] at q
      refine (I.hok b o q).stay (fun c v hc w => k c v ?_ w) (fun c hc => other hc fun w => exo_own w.symm) fun c xs hc => other hc fun w => exo_tup w.symm
      rcases hc with hc | hc
      · rw [hc]; exact z
      · exact at_ne e hc exo_own
end
def tXst (C : Addr) (f : Str) (to te : TE) : TS := fun D σ H => te σ H fun y H1 => to σ H1 fun x H2 => ∃ a : Addr, x = .ref a ∧ H2 a = some (exo a C none) ∧ ∀ dx, H2 dx = none → dx ≠ a → D.nx σ (upd (upd H2 dx (exd dx [(f, y)])) a (exo a C (some dx)))
theorem ps_xst {X : Cx} {o e : Expr} {to te : TE} {f : Str} {C fI : Addr} {p' pos : Pos} (T : XcC X.K C fI f) (ho : PE X o to) (he : PE X e te) (hs : swapsWith e (some (.Attribute o f p')) pos.line X.env = pure false := by rfl) : PS X (.Assign [.Attribute o f p'] e pos) (tXst C f to te) := by
  refine ⟨fun pins s σ H D I h => ?_⟩
  refine plainObj_wpAny_Assign_Attribute (thn (he.run pins s σ H _ I h) fun v s1 ⟨y, H1, I1, r1, q1⟩ => thn (ho.run pins s1 σ H1 _ I1 q1) fun u s2 ⟨x, H2, I2, r2, a, ex, ea, q⟩ => ?_) hs
  subst ex
  obtain rfl : u = Value.ref a := r2
  exact xc_store T I2 ea r1 fun dx s' n ne J => ⟨σ, _, J, q dx n ne⟩
def spXc (C : Addr) (f : Str) : Sp := fun vs H Q E => ∃ (a : Addr) (v : V), vs = [.ref a, v] ∧ H a = some (exo a C none) ∧ ∀ dx, H dx = none → dx ≠ a → Q .non (upd (upd H dx (exd dx [(f, v)])) a (exo a C (some dx)))
structure XnK (P : Program) (w : World) (K : PySem.W.Frag) (mg : Str → Option Value) (base : Heap) (cn f : Str) (g : Addr) : Prop where
  cls : XcC K (He.ga K cn) g f
  ex : ∃ (fd : FuncData) (ps : List Str), MP.FnOk P w K mg base (L2.CX P w) 1 g fd ps (spXc (He.ga K cn) f) ∧ Binds K fd ps []
section
variable {P : Program} {w : World} {K : PySem.W.Frag} {mg : Str → Option Value} {base : Heap} {qual p f cn : Str} {params : Arguments} {scope : Scope} {g : Addr} {fd : FuncData} {q1 q2 q3 q4 : Pos}
theorem xnk_of (T : XcC K (He.ga K cn) g f) (Fd : FunD K "__init__" qual params [.Assign [.Attribute (.Name "self" q1) f q2] (.Name p q3) q4] scope [] [] g fd) (S : FnScope ["self", p] ["self", p] scope) (hb : Binds K fd ["self", p] [])
    (h1 : Vis scope "self") (h2 : Vis scope p) (d1 : (p == ("__debug__" : Str)) = false := by decide) (d2 : (p == ("__classdict__" : Str)) = false := by decide) : XnK P w K mg base cn f g := by
  refine ⟨T, fd, ["self", p], MP.fn_of Fd S (fun vs H Q E h => ?_) fun cdv A outer s H vs Q E hr hsp => ?_, hb⟩
  · obtain ⟨a, v, e, _⟩ := h; rw [e]; rfl
  · obtain ⟨a, v, rfl, ha, hq⟩ := hsp
    refine ⟨_, pss_one (ps_xst T (pe_var (i := 0) rfl h1 (by decide) (by decide)) (pe_var (i := 1) rfl h2 d1 d2)), ?_⟩
    exact ⟨v, rfl, .ref a, rfl, a, rfl, ha, hq⟩
end
end MP
set_option maxRecDepth 100000
set_option maxHeartbeats 1000000
namespace MP
open PySem PySem.Spec PyProof.Rows L2
variable [TabsP] [ThkP]
section
variable {X : Cx} {W : WX} {K : PySem.W.Frag} {DR : DRel} {D : Ends} {N0 : Ent} {F F1 H H1 : Hp} {Ad Ad1 : List Addr} {M : List MP.D} {env : EnvM} {σ : St} {e : Expr} {f : EF} {pos p p2 : Pos} {cn fn y : Str} {g : Addr}
theorem pmk_xc {ta : TA} {es : List Expr} (Xk : XnK X.prog X.w X.K X.mg X.base cn fn g) (hr : Room 2 X.A) (hg : Gl X y) (hm : X.mg y = some (.ref (He.ga X.K cn))) (ha : PA X (e :: es) ta)
    (hdb : (y == ("__debug__" : Str)) = false := by decide) (he : starEach (e :: es) X.env = (false, eval e X.env) :: starEach es X.env := by rfl) (hpl : (backTo pos (starEach es X.env)).any (·.1) = false := by rfl) :
    PMk X (.Call (.Name y p) (e :: es) [] pos) (fun σ H Q => ta σ H fun vs H1 => ∃ v, vs = [v] ∧ ∀ d, H1 d = none → Q (.ref (He.ga X.K cn)) (some d) (upd H1 d (.xd [(fn, v)]))) := by
  intro pins s σ H Q I h
  obtain ⟨T, fd, ps, Fo, hb⟩ := Xk
  obtain ⟨B, newId, initId, bmB, FB, SF, hi, ho⟩ := T.over
  refine wpAny_Call_Name_kw (ld_glob I hg hm ?_ hdb)
  refine PySem.W.callWith_K (h₀ := X.base) I.ok.mod.kin T.kC (thn (ha.run pos pins s σ H _ I h) fun us s1 ⟨vs, H1, I1, r1, v, ev, q1⟩ => ⟨I1.kIn, ?_⟩) he hpl
  subst ev
  show wpAny _ _ (call (.ref (He.ga X.K cn)) us) _ _ _
  obtain ⟨nm, N', qn, bs, bm, hdct, sn, sub, ab, col, dd, k0, k1, k2, k3, k5, hC, hT⟩ := PySem.W.excInit_of I1.kIn hi
  obtain ⟨hp, gs, dr, tk, os⟩ := s1
  have le : hp.objs.size ≤ hp.objs.size + 1 := Nat.le_succ _
  have n1 : H1 (hp.objs.size + 1) = none := I1.hok.fresh le
  have k1' : ∀ b o, hp.get? b = some o → ((hp.push (PySem.W.kdv_tup us)).push (PySem.HandSPX.excO (He.ga X.K cn) hp.objs.size)).get? b = some o := fun b o q => Heap.get?_push_of_some _ (Heap.get?_push_of_some _ q)
  have at1 : ((hp.push (PySem.W.kdv_tup us)).push (PySem.HandSPX.excO (He.ga X.K cn) hp.objs.size)).get? (hp.objs.size + 1) = some (PySem.HandSPX.excO (He.ga X.K cn) hp.objs.size) := by heap_get
  have J : Inv X pins σ (upd H1 (hp.objs.size + 1) (exo (hp.objs.size + 1) (He.ga X.K cn) none)) ⟨(hp.push (PySem.W.kdv_tup us)).push (PySem.HandSPX.excO (He.ga X.K cn) hp.objs.size), gs, dr, tk, os⟩ :=
    I1.laid (t' := tk) (a := hp.objs.size + 1) k1' le (exo_ok at1)
  have rr : Vals [V.ref (hp.objs.size + 1), v] (Value.ref (hp.objs.size + 1) :: us) := .cons rfl r1
  have sp1 : spXc (He.ga X.K cn) fn [.ref (hp.objs.size + 1), v] (upd H1 (hp.objs.size + 1) (exo (hp.objs.size + 1) (He.ga X.K cn) none))
      (fun v' H2 => v' = .non ∧ ∃ d, H1 d = none ∧ d ≠ hp.objs.size + 1 ∧ H2 = upd (upd (upd H1 (hp.objs.size + 1) (exo (hp.objs.size + 1) (He.ga X.K cn) none)) d (exd d [(fn, v)])) (hp.objs.size + 1) (exo (hp.objs.size + 1) (He.ga X.K cn) (some d))) (fun _ _ _ => False) :=
    ⟨_, v, rfl, upd_same, fun d nd ne => ⟨rfl, d, by rw [upd_ne ne] at nd; exact nd, ne, rfl⟩⟩
  have ll : (Value.ref (hp.objs.size + 1) :: us ++ []).length = ps.length := by
    rw [List.append_nil]
    exact (rr.length.symm).trans (Fo.len _ _ _ _ sp1)
  have bb := hb ⟨(hp.push (PySem.W.kdv_tup us)).push (PySem.HandSPX.excO (He.ga X.K cn) hp.objs.size), gs, dr, tk, os⟩ (Value.ref (hp.objs.size + 1) :: us) J.kIn ll
  rw [List.append_nil] at bb
  have few : us.length ≤ sizeLine := by rw [← Paired.length r1]; exact Nat.le_trans (show 1 ≤ 100 by decide) (by decide)
  refine wpAny_call (PySem.HandSPX.call_own FB hT hC (PySem.W.looks_findIn I1.kIn T.iC) (fun self => PySem.W.bind_fn I1.kIn self T.tI) few
    (codeAny_mono (Fo.run _ X.stack _ _ ⟨Value.ref (hp.objs.size + 1) :: us, []⟩ _ _ _ (fun _ _ _ => False) (hr.make (He.ga X.K cn) us []) (J.env0.make (He.ga X.K cn) us []) bb rr sp1) fun r s' q => ?_))
  cases r with
  | error er =>
    obtain ⟨_, _, _, _, _, _, _, _, _, _, _, _, z⟩ := q
    exact z.elim
  | ok fl =>
    cases fl with
    | ret u =>
      obtain ⟨v', H2, os2, bare2, un2, hok2, rv, ev, d, nd, ned, e2⟩ := q
      subst ev e2
      obtain ⟨h2, g2, d2, t2, os'⟩ := s'
      have ed : upd (upd (upd H1 (hp.objs.size + 1) (exo (hp.objs.size + 1) (He.ga X.K cn) none)) d (exd d [(fn, v)])) (hp.objs.size + 1) (exo (hp.objs.size + 1) (He.ga X.K cn) (some d)) d = some (exd d [(fn, v)]) := by rw [upd_ne ned, upd_same]
      have eH : upd (L2.del (upd (upd (upd H1 (hp.objs.size + 1) (exo (hp.objs.size + 1) (He.ga X.K cn) none)) d (exd d [(fn, v)])) (hp.objs.size + 1) (exo (hp.objs.size + 1) (He.ga X.K cn) (some d))) (hp.objs.size + 1)) d (.xd [(fn, v)]) = upd H1 d (.xd [(fn, v)]) := by
        funext b
        by_cases z : b = d
        · rw [z, upd_same, upd_same]
        · rw [upd_ne z, upd_ne z]
          by_cases z2 : b = hp.objs.size + 1
          · rw [z2, del_same, n1]
          · rw [del_ne z2, upd_ne z2, upd_ne z, upd_ne z2]
      exact ⟨rv, mk_end (raises_own T.exC T.tyC) I1 le k1' un2 hok2 os2 bare2 upd_same ed nd (by rw [eH]; exact q1 d nd)⟩
    | next => exact False.elim q
    | brk => exact False.elim q
    | cont => exact False.elim q
def bRaiseL (cn fn : Str) (l : LF) : SF := fun env M => match l env M with
  | .ok [d] M1 => .exc ⟨cn, [(fn, d)]⟩ env M1
  | .exc x M1 => .exc x env M1
  | _ => .stuck
theorem ss_raise {l : LF} (hc : X.calm = true) (tk : Takes X W) (Xk : XnK X.prog X.w X.K X.mg X.base cn fn g) (hr : Room 2 X.A) (hg : Gl X y) (hm : X.mg y = some (.ref (He.ga X.K cn))) (ha : SL X W [e] l)
    (hdb : (y == ("__debug__" : Str)) = false := by decide) (he : starEach [e] X.env = (false, eval e X.env) :: starEach [] X.env := by rfl) (hpl : (backTo pos (starEach [] X.env)).any (·.1) = false := by rfl) :
    SS X W DR (.Raise (some (.Call (.Name y p) [e] [] pos)) none p2) (bRaiseL cn fn l) :=
  PS.imp (ps_raise hc tk (pmk_xc (ta := tL X.K W (DLE X.K) l) Xk hr hg hm ha hdb he hpl)) fun D σ H ⟨N0, F, Ad, M, env, g0, m, en, r⟩ => by
    refine ⟨N0, F, Ad, M, env, m, en, ?_⟩
    unfold bRaiseL at r
    cases q : l env M with
    | stuck => rw [q] at r; exact r
    | exc x M1 => rw [q] at r; exact fun cls dx F' Ad' H' g' m' z => r cls dx σ F' Ad' H' (g0.trans g') g'.fle g'.pre m' (en.gr g') z
    | ok ds M1 =>
      rw [q] at r
      intro vs F' Ad' H' g' m' dl
      cases dl with
      | nil => exact r.elim
      | @cons v0 d0 _ _ x rest =>
        cases rest with
        | cons _ _ => exact r.elim
        | nil =>
          refine ⟨_, rfl, fun d nd => ?_⟩
          have g2 := gr_own (F := F') (Ad := Ad') (o := .xd [(fn, v0)]) nd
          exact r _ _ σ F' Ad' _ ((g0.trans g').trans g2) (g'.fle.trans g2.fle) ((g'.trans g2).pre) (mem_own m' nd) (en.gr (g'.trans g2)) ⟨rfl, _, upd_same, .cons x .nil⟩
end
end MP
set_option maxRecDepth 100000
set_option maxHeartbeats 1000000
namespace MP
open PySem PySem.Spec PyProof.Rows L2
variable [TabsP] [ThkP]
section
variable {X : Cx} {W : WX} {DR : DRel} {body : List Stmt} {b : SF} {pos pos' np pz pc pn' pa pl ps : Pos} {cn fn y n z w : Str} {i j : Nat} {tbl : List (Str × Bool)} {u : Option Str}
end
end MP
set_option maxRecDepth 100000
set_option maxHeartbeats 1000000
namespace MP
open PySem PySem.Spec PyProof.Rows L2
variable [TabsP] [ThkP]
def eChain4 (g1 g2 g3 g4 : D → D → List D → R) (a b c d e : EF) : EF := fun env M => (a env M).bind fun x M1 => (b env M1).bind fun y M2 => (g1 x y M2).bind fun r M3 => match r with
  | .bl true => (c env M3).bind fun z M4 => (g2 y z M4).bind fun r M5 => match r with
    | .bl true => (d env M5).bind fun u M6 => (g3 z u M6).bind fun r M7 => match r with
      | .bl true => (e env M7).bind fun v M8 => g4 u v M8
      | .bl false => .ok (.bl false) M7
      | _ => .stuck
    | .bl false => .ok (.bl false) M5
    | _ => .stuck
  | .bl false => .ok (.bl false) M3
  | _ => .stuck
section
variable {X : Cx} {W : WX} {K : PySem.W.Frag} {DR : DRel} {N0 : Ent} {F H : Hp} {Ad : List Addr} {M : List D} {env : EnvM} {σ : St} {Q : VK} {a b c d e : Expr} {fa fb fc fd fe : EF} {pos : Pos}
@[simp] theorem eChain4_eq {G1 G2 G3 G4} : eChain4 G1 G2 G3 G4 fa fb fc fd fe env M = (fa env M).bind fun x M1 => (fb env M1).bind fun y M2 => (G1 x y M2).bind fun r M3 => iteR r ((fc env M3).bind fun z M4 => (G2 y z M4).bind fun r M5 => iteR r ((fd env M5).bind fun u M6 => (G3 z u M6).bind fun r M7 => iteR r ((fe env M7).bind fun v M8 => G4 u v M8) (.ok (.bl false) M7)) (.ok (.bl false) M5)) (.ok (.bl false) M3) := by
  unfold eChain4
  refine iteR_fun fun x M1 => iteR_fun fun y M2 => iteR_fun fun r M3 => ?_
  cases r with
  | bl k =>
    cases k with
    | false => rfl
    | true =>
      show R.bind _ _ = R.bind _ _
      refine iteR_fun fun z M4 => iteR_fun fun r M5 => ?_
      cases r with
      | bl k =>
        cases k with
        | false => rfl
        | true =>
          show R.bind _ _ = R.bind _ _
          refine iteR_fun fun u M6 => iteR_fun fun r M7 => ?_
          cases r with
          | bl k => cases k <;> rfl
          | _ => rfl
      | _ => rfl
  | _ => rfl
def tChain4 (r1 r2 r3 r4 : R2) (ta tb tc td te : TE) : TE := fun σ H Q => ta σ H fun x H1 => tb σ H1 fun y H2 => r1 x y H2 fun z H3 => ∃ k, z = .bl k ∧
  (if k = true then tc σ H3 fun x2 H4 => r2 y x2 H4 fun z2 H5 => ∃ k2, z2 = .bl k2 ∧ (if k2 = true then td σ H5 fun x3 H6 => r3 x2 x3 H6 fun z3 H7 => ∃ k3, z3 = .bl k3 ∧ (if k3 = true then te σ H7 fun x4 H8 => r4 x3 x4 H8 Q else Q (.bl false) H7) else Q (.bl false) H5) else Q (.bl false) H3)
theorem ch4_read {g1 g2 g3 g4 : D → D → List D → R} (h : tG X.K W (DE X.K) (eChain4 g1 g2 g3 g4 fa fb fc fd fe) σ H Q) :
    tChain4 (rOp X (fun c d H => W c d σ H) (DE X.K) g1) (rOp X (fun c d H => W c d σ H) (DE X.K) g2) (rOp X (fun c d H => W c d σ H) (DE X.K) g3) (rOp X (fun c d H => W c d σ H) (DE X.K) g4) (tG X.K W (DB X.K) fa) (tG X.K W (DB X.K) fb) (tG X.K W (DB X.K) fc) (tG X.K W (DB X.K) fd) (tG X.K W (DB X.K) fe) σ H Q := by
    obtain ⟨N0, F, Ad, M, env, m, en, r⟩ := h
    refine tG_seq DE.ok m en r fun d1 M1 v F1 Ad1 H1 z1 m1 en1 x1 r1 => tG_seq DE.ok m1 en1 r1 fun d2 M2 v2 F2 Ad2 H2 z2 m2 en2 x2 r2 => ⟨F2, Ad2, M2, d1, d2, m2, DB.gr z2 x1, x2, ?_⟩
    cases q : g1 d1 d2 M2 with
    | exc x M3 => rw [q] at r2; exact r2
    | stuck => rw [q] at r2; exact r2
    | ok d3 M3 =>
      rw [q] at r2
      intro v3 F3 Ad3 H3 z3 m3 x3
      have r3 := RP.gr DE.ok r2 z3
      have en3 := en2.gr z3
      cases d3 with
      | bl k =>
        cases x3
        refine ⟨k, rfl, ?_⟩
        cases k with
        | false => exact RP.here r3 m3 .bl
        | true =>
          refine tG_seq DE.ok m3 en3 r3 fun d4 M4 v4 F4 Ad4 H4 z4 m4 en4 x4 r4 => ⟨F4, Ad4, M4, d2, d4, m4, DB.gr z4 (DB.gr z3 x2 (H0' := H3)), x4, ?_⟩
          cases q4 : g2 d2 d4 M4 with
          | exc x M5 => rw [q4] at r4; exact r4
          | stuck => rw [q4] at r4; exact r4
          | ok d5 M5 =>
            rw [q4] at r4
            intro v5 F5 Ad5 H5 z5 m5 x5
            have r5 := RP.gr DE.ok r4 z5
            have en5 := en4.gr z5
            cases d5 with
            | bl k2 =>
              cases x5
              refine ⟨k2, rfl, ?_⟩
              cases k2 with
              | false => exact RP.here r5 m5 .bl
              | true =>
                refine tG_seq DE.ok m5 en5 r5 fun d6 M6 v6 F6 Ad6 H6 z6 m6 en6 x6 r6 => ⟨F6, Ad6, M6, d4, d6, m6, DB.gr z6 (DB.gr z5 x4 (H0' := H5)), x6, ?_⟩
                cases q6 : g3 d4 d6 M6 with
                | exc x M7 => rw [q6] at r6; exact r6
                | stuck => rw [q6] at r6; exact r6
                | ok d7 M7 =>
                  rw [q6] at r6
                  intro v7 F7 Ad7 H7 z7 m7 x7
                  have r7 := RP.gr DE.ok r6 z7
                  have en7 := en6.gr z7
                  cases d7 with
                  | bl k3 =>
                    cases x7
                    refine ⟨k3, rfl, ?_⟩
                    cases k3 with
                    | false => exact RP.here r7 m7 .bl
                    | true => exact tG_seq DE.ok m7 en7 r7 fun d8 M8 v8 F8 Ad8 H8 z8 m8 en8 x8 r8 => ⟨F8, Ad8, M8, d6, d8, m8, DB.gr z8 (DB.gr z7 x6 (H0' := H7)), x8, r8⟩
                  | _ => exact r7.elim
            | _ => exact r5.elim
      | _ => exact r3.elim
theorem pt_ch4 {ta tb tc td te : TE} {o1 o2 o3 o4 : CmpOp} {r1 r2 r3 r4 : R2} (h1 : OpR X (compareOp o1) r1) (h2 : OpR X (compareOp o2) r2) (h3 : OpR X (compareOp o3) r3) (h4 : OpR X (compareOp o4) r4) (ha : PE X a ta) (hb : PE X b tb) (hc : PE X c tc) (hd : PE X d td) (he : PE X e te)
    (hm : lastMarks [o1, o2, o3, o4] [b, c, d, e] = false) : PT X (.Compare a [o1, o2, o3, o4] [b, c, d, e] pos) (tTest (tChain4 r1 r2 r3 r4 ta tb tc td te)) := by
  refine ⟨fun pins s σ H Q I h => isTrue_chain (thn (ha.run pins s σ H _ I h) fun v s1 ⟨x, H1, I1, q1, w1⟩ => test_link (thn (hb.run pins s1 σ H1 _ I1 w1) fun u s2 ⟨y, H2, I2, q2, w2⟩ =>
    thn (h1 pins s2 σ H2 x y v u _ I2 q1 q2 w2) fun _ s3 ⟨_, H3, I3, q3, k, ek, w3⟩ => ?_)) hm⟩
  subst ek
  cases q3
  refine wpAny_truthy_bool ?_
  cases k with
  | false =>
    obtain ⟨k', e', q'⟩ := w3
    cases e'
    exact ite_ff ⟨H3, I3, q'⟩
  | true =>
    refine ite_tt (test_link (thn (hc.run pins s3 σ H3 _ I3 w3) fun u4 s4 ⟨y4, H4, I4, q4, w4⟩ => thn (h2 pins s4 σ H4 y y4 u u4 _ I4 q2 q4 w4) fun _ s5 ⟨_, H5, I5, q5, k2, e5, w5⟩ => ?_))
    subst e5
    cases q5
    refine wpAny_truthy_bool ?_
    cases k2 with
    | false =>
      obtain ⟨k', e', q'⟩ := w5
      cases e'
      exact ite_ff ⟨H5, I5, q'⟩
    | true =>
      refine ite_tt (test_link (thn (hd.run pins s5 σ H5 _ I5 w5) fun u6 s6 ⟨y6, H6, I6, q6, w6⟩ => thn (h3 pins s6 σ H6 y4 y6 u4 u6 _ I6 q4 q6 w6) fun _ s7 ⟨_, H7, I7, q7, k3, e7, w7⟩ => ?_))
      subst e7
      cases q7
      refine wpAny_truthy_bool ?_
      cases k3 with
      | false =>
        obtain ⟨k', e', q'⟩ := w7
        cases e'
        exact ite_ff ⟨H7, I7, q'⟩
      | true =>
        refine ite_tt (test_last (thn (he.run pins s7 σ H7 _ I7 w7) fun u8 s8 ⟨y8, H8, I8, q8, w8⟩ => thn (h4 pins s8 σ H8 y6 y8 u6 u8 _ I8 q6 q8 w8) fun _ s9 ⟨_, H9, I9, q9, k4, e9, w9⟩ => ?_))
        subst e9
        cases q9
        exact wpAny_truthy_bool ⟨H9, I9, w9⟩
theorem st_ch4 {o1 o2 o3 o4 : CmpOp} {g1 g2 g3 g4 : D → D → List D → R} (h1 : Op2 X (DE X.K) (compareOp o1) g1) (h2 : Op2 X (DE X.K) (compareOp o2) g2) (h3 : Op2 X (DE X.K) (compareOp o3) g3) (h4 : Op2 X (DE X.K) (compareOp o4) g4) (ha : SB X W a fa) (hb : SB X W b fb) (hc : SB X W c fc) (hd : SB X W d fd) (he : SB X W e fe)
    (hm : lastMarks [o1, o2, o3, o4] [b, c, d, e] = false := by rfl) : ST X W (.Compare a [o1, o2, o3, o4] [b, c, d, e] pos) (eChain4 g1 g2 g3 g4 fa fb fc fd fe) :=
  ⟨fun pins s σ H Q I ⟨N0, F, Ad, M, env, m, en, r⟩ => (pt_ch4 (h1.opR (E := fun c d H => W c d σ H)) (h2.opR (E := fun c d H => W c d σ H)) (h3.opR (E := fun c d H => W c d σ H)) (h4.opR (E := fun c d H => W c d σ H)) ha hb hc hd he hm).run pins s σ H Q I (ch4_read ⟨N0, F, Ad, M, env, m, en, by
    cases q : eChain4 g1 g2 g3 g4 fa fb fc fd fe env M with
    | ok d M1 =>
      rw [q] at r
      intro v F' Ad' H' g m' x
      cases d with
      | bl b => cases x; exact ⟨b, rfl, r F' Ad' H' g m'⟩
      | _ => exact r.elim
    | exc x M1 => rw [q] at r; exact r
    | stuck => rw [q] at r; exact r⟩)⟩
end
instance (priority := 10) tabs0 : TabsP := ⟨[]⟩
instance (priority := 10) thk0 : ThkP := ⟨0, ⟨fun _ => none, fun _ => none, [], 0⟩⟩
end MP
set_option maxRecDepth 100000
set_option maxHeartbeats 1000000
namespace MP
open PySem PySem.Spec PyProof.Rows L2
variable [TabsP] [ThkP]
structure LamMd (X : Cx) (pins : List (Addr × Obj)) (σ : St) (H : Hp) (params : Arguments) (body : Expr) (scope : Scope) (H1 : Hp) (s1 : Shared) (f c : Addr) : Prop where
  inv : Inv X pins σ H1 s1
  keep : ∀ b o, H b = some o → (∀ ps, o ≠ .tbl ps) → H1 b = some o
  alive : ∀ b, H b ≠ none → H1 b ≠ none
  tab : LamX.Tabs TabsP.ts H1
  fn : ∃ pm ctv, s1.heap.get? f = some (PySem.W.kla_obj "<lambda>" (X.env.qual ++ "<lambda>") params body scope (cloFrom X.env.cells scope.names []) pm c ctv)
  fnew : H1 f = none
  ffr : f ∉ frs X.stack
  cod : H1 c = some (LamX.CodeO c (X.env.qual ++ "<lambda>"))
section
variable {X : Cx} {pins : List (Addr × Obj)} {σ : St} {H : Hp} {s : Shared} {c P : Addr} {params : Arguments} {body : Expr} {scope : Scope} {pos : Pos}
end
def eAct (i : Nat) (th : List D → R) : EF := fun env M => match env[i]? with | some .raw => th M | _ => .stuck
section
variable {X : Cx} {pins : List (Addr × Obj)} {σ : St} {H0 H F : Hp} {Ad : List Addr} {s : Shared} {params : Arguments} {body : Expr} {scope : Scope} {f c : Addr} {k i : Nat} {N0 : Ent} {env : EnvM} {fb : EF}
  {Ng : List Str} {qg : Str} {sg : Scope} {g : Addr} {cdg : Value} {Eg : XK} {a : Str} {pn : List (Addr × Obj)} {xe : Value → Shared → Prop} {W : WX} {p1 p2 : Pos}
end
structure FnTh (P : Program) (w : World) (K : PySem.W.Frag) (mg : Str → Option Value) (base : Heap) (k : Nat) (g : Addr) (T : (List D → R) → List D → R) : Prop where
  ex : ∃ (x qual : Str) (pg : Arguments) (bg : List Stmt) (sg : Scope) (fd : FuncData) (N : List Str) (a : Str) (b : (List D → R) → SF), FunD K x qual pg bg sg [] [] g fd ∧ FnScope N [a] sg ∧ Binds K fd [a] [] ∧ N[0]? = some a ∧ Vis sg a ∧ (a == ("__debug__" : Str)) = false ∧ (a == ("__classdict__" : Str)) = false ∧
    (∀ th M, T th M = endE (b th (B.raw :: List.replicate (N.length - 1) B.no) M)) ∧
    ∀ (T1 : ThkP) (th : List D → R) (cdv : Value) (A : Around) (outer : List Env) (s : Shared) (H : Hp) (E : XK), Room k (A.deeper (envOfC qual sg s.heap.objs.size g cdv)) →
      (∀ (W : WX) (pn : List (Addr × Obj)) (xe : Value → Shared → Prop) (p1 p2 : Pos), Takes ((cxOf (L2.CX P w) P w K mg base N qual sg g cdv A outer s H E).tr pn xe) W → @SE _ T1 ((cxOf (L2.CX P w) P w K mg base N qual sg g cdv A outer s H E).tr pn xe) W (.Call (.Name a p1) [] [] p2) (eAct 0 th)) →
      @SSs _ T1 (cxOf (L2.CX P w) P w K mg base N qual sg g cdv A outer s H E) (wxE E) (DE K) bg (b th)
section
variable {X : Cx} {W : WX} {c P g : Addr} {k : Nat} {x : Str} {params : Arguments} {body : Expr} {scope : Scope} {fb : EF} {T : (List D → R) → List D → R} {p lpos pos : Pos}
end
end MP
set_option maxRecDepth 100000
set_option maxHeartbeats 2000000
namespace MP
open PySem PySem.Spec PyProof.Rows L2
section
variable {P : Program} {w : World} {K : PySem.W.Frag} {mg mb : Str → Option Value} {CX : CXT} {k : Nat} {fa a : Addr} {cs : List (Addr × Addr)} {fd : FuncData} {x : Str} {sp : Sp} {s₁ : Shared} {vs : List Value} {ns : List Int}
end
end MP
set_option maxRecDepth 100000
set_option maxHeartbeats 1000000
namespace MP
open PySem PySem.Spec PyProof.Rows L2
def tabsQ (K : PySem.W.Frag) (fs : List Str) : List (Addr × Str) := fs.map fun x => (tblOf K (codeOf K (He.ga K x)), x ++ ".<locals>." ++ "<lambda>")
structure SaysTL [TabsP] (fa : List He.Fa) (fm : List Fm) (fn : List DefM) (ts : List Tb) (fs : List Str) (w : World) (K : PySem.W.Frag) (mg : Str → Option Value) (base : Heap) : Prop where
  m : SaysMT fa fm fn ts w K
  tb : ∀ p ∈ codes K fs, LamX.TabB base mg p.1 p.2
  ht : TabsP.ts = tabsQ K fs
  nd : ((codes K fs).map Prod.snd).Nodup
section
variable [TabsP] {fa : List He.Fa} {fm : List Fm} {fn : List DefM} {ts : List Tb} {fs : List Str} {w : World} {K : PySem.W.Frag} {mg : Str → Option Value} {base : Heap}
theorem SaysTL.a (c : SaysTL fa fm fn ts fs w K mg base) (i : Nat) {f : He.Fa} (h : fa[i]? = some f) : f.ok K = true := c.m.a i h
theorem SaysTL.b (c : SaysTL fa fm fn ts fs w K mg base) (i : Nat) {f : Fm} (h : fm[i]? = some f) : f.ok K = true := c.m.b i h
theorem SaysTL.d (c : SaysTL fa fm fn ts fs w K mg base) (i : Nat) {d : DefM} (h : fn[i]? = some d) : ∃ fd, FunD K d.name d.qual d.params d.body d.scope (d.dvs K) (d.kws K) (d.loc.at_ K) fd := c.m.d i h
theorem SaysTL.t (c : SaysTL fa fm fn ts fs w K mg base) (i : Nat) {t : Tb} (h : ts[i]? = some t) : TbOk K w t.1 t.2 := c.m.t i h
theorem nodup_at {α β : Type} {f : α → β} {xs : List α} (h : (xs.map f).Nodup) {x y : α} (hx : x ∈ xs) (hy : y ∈ xs) (e : f x = f y) : x = y := by
  induction xs with
  | nil => cases hx
  | cons z zs ih =>
    rw [List.map_cons, List.nodup_cons] at h
    rcases List.mem_cons.mp hx with rfl | hx'
    · rcases List.mem_cons.mp hy with rfl | hy'
      · rfl
      · exact absurd (List.mem_map.mpr ⟨y, hy', e.symm⟩) h.1
    · rcases List.mem_cons.mp hy with rfl | hy'
      · exact absurd (List.mem_map.mpr ⟨x, hx', e⟩) h.1
      · exact ih h.2 hx' hy'
theorem SaysTL.mem (c : SaysTL fa fm fn ts fs w K mg base) {x : Str} (hx : x ∈ fs) : (tblOf K (codeOf K (He.ga K x)), x ++ ".<locals>." ++ "<lambda>") ∈ TabsP.ts := by
  rw [c.ht]; exact List.mem_map.mpr ⟨x, hx, rfl⟩
theorem SaysTL.uniq (c : SaysTL fa fm fn ts fs w K mg base) {x : Str} (hx : x ∈ fs) : ∀ p ∈ TabsP.ts, p.1 = tblOf K (codeOf K (He.ga K x)) → p.2 = x ++ ".<locals>." ++ "<lambda>" := fun p hp e => by
  rw [c.ht] at hp
  obtain ⟨y, hy, rfl⟩ := List.mem_map.mp hp
  have nd := c.nd
  unfold codes at nd
  rw [List.map_map] at nd
  rw [nodup_at nd hy hx e]
end
section
variable [TabsP] [ThkP] {P : Program} {w : World} {K : PySem.W.Frag} {mg : Str → Option Value} {base : Heap} {x qual : Str} {params : Arguments} {body : List Stmt} {scope : Scope} {dvs : List V} {kws : List (Str × V)} {f : Addr} {fd : FuncData} {N ps : List Str} {k : Nat}
end
end MP
namespace MP
open PySem PySem.Spec PyProof.Rows L2
end MP
set_option maxRecDepth 100000
set_option maxHeartbeats 1000000
namespace MP
open PySem PySem.Spec PyProof.Rows L2
variable [TabsP] [ThkP]
section
variable {K : PySem.W.Frag} {F H H1 : Hp} {Ad : List Addr} {M : List D} {env : EnvM} {σ : St} {N0 : Ent}
end
section
variable {X : Cx} {W : WX} {K : PySem.W.Frag} {DR : DRel} {N0 : Ent} {F H : Hp} {Ad : List Addr} {M : List D} {env : EnvM} {σ : St} {Q : VK} {pos : Pos}
def bShareP (i : Nat) : SF := fun env M => match env[i]? with
  | some (.par d) => .next (env.set i (.shr d)) M
  | _ => .stuck
@[simp] theorem bShareP_par {i : Nat} {d : D} (h : env[i]? = some (.par d)) : bShareP i env M = .next (env.set i (.shr d)) M := by unfold bShareP; rw [h]
end
end MP
set_option maxRecDepth 100000
set_option maxHeartbeats 1000000
namespace MP
open PySem PySem.Spec PyProof.Rows L2
variable [TabsP] [ThkP]
structure LamP (y : Str) (scope : Scope) : Prop where
  kind : scope.kind = .function
  co : scope.isCoroutine = false
  gen : scope.isGenerator = false
  own : ∀ z ∈ scope.names, z.2 ≠ .cell ∧ z.2 ≠ .free
  loc : scope.names.lookup y = some .local
section
variable {X : Cx} {pins : List (Addr × Obj)} {σ : St} {H H1 F : Hp} {Ad : List Addr} {M : List D} {s s1 : Shared} {params : Arguments} {body : Expr} {scope : Scope} {f c : Addr} {y : Str} {p1 p2 p3 : Pos} {kd : Nat}
end
section
variable {X : Cx} {W : WX} {K : PySem.W.Frag} {F : Hp} {Ad : List Addr} {c P : Addr} {params : Arguments} {scope : Scope} {y : Str} {p p1 p2 p3 lpos kpos pos : Pos} {kd : Nat} {e : Expr} {l : EF}
end
section
variable {X : Cx} {W : WX} {c P : Addr} {params : Arguments} {scope : Scope} {y : Str} {p p1 p2 p3 lpos kpos pos : Pos} {kd : Nat} {e : Expr} {l : EF}
end
end MP
set_option maxRecDepth 100000
set_option maxHeartbeats 1000000
namespace MP
open PySem PySem.Spec PyProof.Rows L2 PySem.Calls
variable [TabsP] [ThkP]
section
variable {X : Cx} {W : WX} {K : PySem.W.Frag} {DR : DRel} {N0 : Ent} {F H : Hp} {Ad : List Addr} {M : List D} {env : EnvM} {σ : St} {Q : VK} {e : Expr} {f : EF} {l : LF} {pos p : Pos} {k n : Nat} {g : Addr} {dd : List D} {c : List D → List D → R}
end
end MP
set_option maxRecDepth 100000
set_option maxHeartbeats 1000000
namespace MP
open PySem PySem.Spec PyProof.Rows L2
variable [TabsP] [ThkP]
section
variable {X : Cx} {W : WX} {K : PySem.W.Frag} {F : Hp} {Ad : List Addr} {a : Expr} {fa : EF} {k : Nat} {p1 p2 p3 pos : Pos}
end
end MP
set_option maxRecDepth 100000
set_option maxHeartbeats 2000000
namespace GQ
open PySem PySem.Calls PyProof.Rows Builtin
section
variable {prog : Program} {w : World} {A : Around} {E : Value → Shared → Prop} {R : Result → Shared → Prop}
end
end GQ
namespace MP
open PySem PySem.Spec PyProof.Rows L2
variable [TabsP] [ThkP]
section
variable {X : Cx}
end
end MP
set_option maxRecDepth 100000
set_option maxHeartbeats 2000000
namespace CaX
open PySem PySem.Spec PyProof.Rows L2
theorem fly_keeps {base : Heap} {l : List Env} {e : Addr} {Z : Obj → Prop} {h h' : Heap} (x : HandSPX.FlyingZ base l e Z h) (k : ∀ b o, h.get? b = some o → h'.get? b = some o) : HandSPX.FlyingZ base l e Z h' := by
  obtain ⟨f1, f2, f3, oe, vs, T, oT, ts, he, hz, hd, h1, hn, hne, hT, hdT, h3⟩ := x
  exact ⟨fun b o q => k b o (f1 b o q), f2, f3.of_keeps fun b o q _ => ⟨o, k b o q, rfl⟩, oe, vs, T, oT, ts, k _ _ he, hz, hd, h1, hn, hne, k _ _ hT, hdT, h3⟩
section
variable {X : Cx} {x1 x2 x3 n : Str} {c1 c2 c3 : Value} {i kk : Nat} {body suite : List Stmt} {b₀ : Stmt} {p1 p2 p3 tp pos pos' : Pos} {tb : WX → TS} {ts : Addr → Value → Option Addr → TS} {Wout : WX}
end
end CaX
set_option maxRecDepth 100000
set_option maxHeartbeats 2000000
namespace MP
open PySem PySem.Spec PyProof.Rows L2
variable [TabsP]
structure ExAt (K : PySem.W.Frag) (T : ThkP) (x : Xc) (a : Addr) (cls : Value) (d : Option Addr) : Prop where
  ad : a = T.f
  cl : cls = .ref (He.ga K x.c)
  dic : (d = none ∧ x.fs = []) ∨ ∃ dd vs, d = some dd ∧ T.ent.fz dd = some (.xd vs) ∧ DenF K T.ent.fz T.ent.ad vs x.fs
structure ExP (K : PySem.W.Frag) (T : ThkP) (x : Xc) (p : Addr × Obj) : Prop where
  ex : ExAt K T x p.1 p.2.cls p.2.dict
  fd : ∃ vs, p.2.data = .fields vs
section
variable [T0 : ThkP] {X : Cx} {W : WX} {K : PySem.W.Frag} {x : Xc} {p : Addr × Obj} {pn : List (Addr × Obj)} {i : Nat} {n y fn cn f : Str} {tbl : List (Str × Bool)} {p1 p2 p3 pos : Pos} {N0 : Ent} {F H : Hp} {Ad : List Addr} {M : List D} {env : EnvM} {σ : St}
end
structure FnTg (P : Program) (w : World) (K : PySem.W.Frag) (mg : Str → Option Value) (base : Heap) (k : Nat) (g : Addr) (T : Xc → List D → R) : Prop where
  ex : ∃ (x qual : Str) (pg : Arguments) (bg : List Stmt) (sg : Scope) (fd : FuncData) (N : List Str) (a : Str) (b : Xc → SF), FunD K x qual pg bg sg [] [] g fd ∧ FnScope N [a] sg ∧ Binds K fd [a] [] ∧ N[0]? = some a ∧
    (∀ x M, T x M = endE (b x (B.raw :: List.replicate (N.length - 1) B.no) M)) ∧
    ∀ (T1 : ThkP) (x : Xc) (cdv : Value) (A : Around) (outer : List Env) (s : Shared) (H : Hp) (E : XK) (p : Addr × Obj), L2H.RoomH k (A.deeper (envOfC qual sg s.heap.objs.size g cdv)) → ExP K T1 x p →
      @SSs _ T1 (L2H.cxH (L2.CX P w) P w K mg base N qual sg g cdv A outer s H E p) (wxE E) (DE K) bg (b x)
section
variable [T0 : ThkP] {X : Cx} {W : WX} {x : Xc} {p : Addr × Obj} {pn : List (Addr × Obj)} {i k : Nat} {n f : Str} {g : Addr} {T : Xc → List D → R} {p1 p2 pos : Pos}
end
section
variable [T0 : ThkP] {X : Cx} {W : WX} {DR : DRel} {body suite : List Stmt} {b₀ : Stmt} {b : SF} {ts : Xc → SF} {pos pos' p1 p2 p3 tp : Pos} {cn1 cn2 cn3 x1 x2 x3 n : Str} {i kk : Nat} {tbl : List (Str × Bool)}
end
end MP
set_option maxRecDepth 100000
set_option maxHeartbeats 1000000
namespace MP
open PySem PySem.Spec PyProof.Rows L2
end MP
set_option maxRecDepth 100000
set_option maxHeartbeats 1000000
namespace MP
open PySem PySem.Spec PyProof.Rows L2
variable [TabsP] [ThkP]
section
variable {X : Cx} {W : WX} {N0 : Ent} {F H : Hp} {Ad : List Addr} {M : List D} {env : EnvM} {σ : St} {Q : VK} {k n np : Nat} {ks : List Str} {ix : List Nat} {g : Addr} {dd : List D} {c : List D → List D → R} {es : List Expr} {e : Expr} {l1 l2 : LF} {y cn : Str} {p pos kpos : Pos} {kws : List Keyword}
end
end MP
set_option maxRecDepth 100000
set_option maxHeartbeats 1000000
namespace MP
open PySem PySem.Spec PyProof.Rows L2
variable [TabsP] [ThkP]
section
variable {X : Cx} {W : WX} {K : PySem.W.Frag} {DR : DRel} {fe : EF} {i j : Nat} {pos : Pos}
end
end MP
set_option maxRecDepth 100000
set_option maxHeartbeats 2000000
namespace NeX
open PySem PySem.Spec PyProof.Rows
section
variable {M : Model} {prog : Program} {w : World} {A : Around} {E : Value → Shared → Prop} {s : Shared} {K : PySem.W.Frag} {x y C f : Addr} {ox : Obj} {od : Option Obj}
end
end NeX
namespace MP
open PySem PySem.Spec PyProof.Rows L2
variable [TabsP] [ThkP]
section
variable {X : Cx} {W : WX}
structure NeO (K : PySem.W.Frag) (cn : Str) : Prop where
  ne : PySem.W.findIn K (.ref (He.ga K cn)) "__ne__" = some (some (.builtin "object.__ne__"))
  mo : PySem.W.mroIn K (He.ga K cn) (.type "object") = some true
end
end MP
set_option maxRecDepth 100000
set_option maxHeartbeats 2000000
namespace MP
open PySem PySem.Spec PyProof.Rows L2
variable [TabsP] [ThkP]
structure XnC (K : PySem.W.Frag) (C : Addr) : Prop where
  over : ∃ (B newId initId : String) (bmB : List Value), ExcBaseFacts B newId initId bmB ∧ PySem.W.excIn K C bmB newId = true
  kC : PySem.W.keepIn K (.ref C) = true
  exC : PySem.W.subIn K (.ref C) (.type "BaseException") = some true
  tyC : PySem.W.typeIn K (.ref C) = some (.type "type")
section
variable {X : Cx} {W : WX} {DR : DRel} {cn y : Str} {p p2 pos : Pos}
end
end MP
namespace MP
open PySem PySem.Spec PyProof.Rows L2
variable [TabsP]
section
variable [T0 : ThkP] {X : Cx} {W : WX} {DR : DRel} {body : List Stmt} {b : SF} {fe : Xc → EF} {e : Expr} {pos pos' np pz ps : Pos} {cn y n z : Str} {i j : Nat} {tbl : List (Str × Bool)}
end
end MP
set_option maxRecDepth 100000
set_option maxHeartbeats 1000000
namespace MP
open PySem PySem.Spec PyProof.Rows L2
variable [TabsP] [ThkP]
section
variable {X : Cx} {W : WX} {K : PySem.W.Frag} {F H : Hp} {Ad : List Addr} {M : List D} {i : Nat}
end
end MP
set_option maxRecDepth 100000
set_option maxHeartbeats 2000000
namespace CaX
open PySem PySem.Spec PyProof.Rows L2
def wOnly2 (K : PySem.W.Frag) (cs : List Value) (ts : Addr → Value → Option Addr → TS) (Wout : WX) (D : Ends) : WX := fun cls d σ H =>
  ∃ b, PySem.W.exmAny K cls cs = some b ∧ (b = true → ∀ a, H a = none → ts a cls d D σ H) ∧ (b = false → Wout cls d σ H)
section
variable {X : Cx} {x1 x2 : Str} {c1 c2 : Value} {kk : Nat} {body suite : List Stmt} {b₀ : Stmt} {p1 p2 tp pos pos' : Pos} {tb : WX → TS} {ts : Addr → Value → Option Addr → TS} {Wout : WX}
theorem ps_try_only2 (hs : X.stack = X.env :: X.outer) (hf : X.env.frame = some X.env.locals) (n1 : Names X x1 c1) (n2 : Names X x2 c2) (tk : Takes X Wout)
    (hb : ∀ (W : WX) (pn : List (Addr × Obj)) (xe : Value → Shared → Prop), Takes (X.tr pn xe) W → PassesOwn (model X.prog X.w) X.A X.env xe → PSs (X.tr pn xe) body (tb W))
    (hsu : ∀ (a : Addr) (oe : Obj) (cls : Value) (d : Option Addr) (pn : List (Addr × Obj)), Zc cls d oe → (∃ vs, oe.data = .fields vs) → PSs (X.suite a ((a, oe) :: pn)) (b₀ :: suite) (ts a cls d)) :
    PS X (.Try body [.ExceptHandler (some (.Tuple [.Name x1 p1, .Name x2 p2] kk tp)) none (b₀ :: suite) pos'] [] [] pos) (fun D σ H => tb (wOnly2 X.K [c1, c2] ts Wout D) D σ H) := by
  refine ⟨fun pins s σ H D I h => ?_⟩
  have ok := I.ok
  have hfr : X.A.frames = some (X.env :: X.outer) := by rw [ok.frames, hs]
  refine wpAny_Try_except ?_
  refine wpAny_mono ((hb (wOnly2 X.K [c1, c2] ts Wout D) (X.pn ++ pins) (fun e s₁ => wpAny (model X.prog X.w) X.A (noteFrame e X.env) (fun _ s₂ => wpAny (model X.prog X.w) X.A (setFlight e none) (fun _ s₃ =>
    wpAny (model X.prog X.w) X.A (handleBy e X.env [.ExceptHandler (some (.Tuple [.Name x1 p1, .Name x2 p2] kk tp)) none (b₀ :: suite) pos']) (SP X pins D) X.xe s₃) X.xe s₂) X.xe s₁) (fun u s' xx => ?_) PassesOwn.looking).run [] s σ H D (I.toTry _) h) (fun f s1 hsp => ?_) (fun e s1 he => he)
  · obtain ⟨a, B, sI, pins', σ', H', cls, d, rfl, J', nb, up, sky, na, os, ag, b, hb1, hyes, hno⟩ := xx
    have J : Inv X pins σ' H' sI := J'.ofTry ok
    have sky' : Sky B (X.env :: X.outer) a (Zc cls d) X.env.locals s'.heap := by rw [← hs]; exact sky
    show wpAny (model X.prog X.w) X.A (noteFrame (.ref a) X.env) _ _ _
    refine Sky.land Zc.steady hfr hf sky' fun h3 fl3 up3 => ?_
    have J3 : Inv X pins σ' H' { s' with heap := h3 } := J.landed nb fl3.1 (up.trans up3) os ag
    obtain ⟨oe3, vs3, he3, hz3, hd3⟩ := fl3.there
    have notFr : ∀ {h : Heap} {o : Obj} {vs : Array Value}, h.FunFrames B (X.env :: X.outer) → h.get? a = some o → o.data = .fields vs → a ∉ frs (X.env :: X.outer) := fun {h o vs} ff e dd hm => by
      obtain ⟨_, o', e', hnf⟩ := ff.mem hm
      rw [e] at e'; cases e'
      exact hnf _ dd
    have nfr := notFr fl3.2.2.1 he3 hd3
    have nL : a ≠ X.env.locals := fun z => nfr (List.mem_filterMap.mpr ⟨X.env, List.mem_cons_self, by rw [hf, z]⟩)
    have nF : a ∉ X.fs := fun hm => by
      obtain ⟨e, he, q⟩ := List.mem_filterMap.mp hm
      exact nfr (List.mem_filterMap.mpr ⟨e, List.mem_cons_of_mem _ he, q⟩)
    have S3 := J3.suite he3 hd3 na nL nF
    refine wpAny_handleBy_cons (codeAny_handlers_test ?_) (by intro q; cases q)
    have LT : PySem.W.Looks (model X.prog X.w) h3 (typeOf (.ref a)) cls := fun A Q E s k q => wpAny_typeOf_ref (k _ _ he3) (by rw [hz3.1]; exact q)
    have nm : ∀ {x : Str} {c : Value} {np : Pos}, Names X x c → ∀ {Q : Value → Shared → Prop} {E : Value → Shared → Prop}, Q c { s' with heap := h3 } → wpAny (model X.prog X.w) (X.A.mark (some (.ref a))) (eval (.Name x np) X.env) Q E { s' with heap := h3 } := fun {x c np} hc {Q E} q => by
      obtain ⟨hg, hdbg, hm | ⟨hm, hv, hnn⟩⟩ := hc
      · exact ld_glob (X := X.suite a ((a, oe3) :: (X.pn ++ pins))) S3 hg hm q hdbg
      · exact ld_blt (X := X.suite a ((a, oe3) :: (X.pn ++ pins))) S3 hg hm hv q hnn hdbg
    refine wpAny_Tuple ?_
    refine wpAny_items_cons (nm n1 ?_)
    refine wpAny_items_cons (nm n2 ?_)
    refine wpAny_items_nil ⟨by size_fits, ?_⟩
    have kp : ∀ q o, h3.get? q = some o → (h3.push { cls := .type "tuple", data := .seq [c1, c2].toArray }).get? q = some o := fun _ _ z => Heap.get?_push_of_some _ z
    have fl5 := fly_keeps fl3 kp
    have up5 : h3.UpToSlots (h3.push { cls := .type "tuple", data := .seq [c1, c2].toArray }) := Heap.UpToSlots.of_keeps kp
    refine (PySem.W.exm_tup2 (M := model X.prog X.w) (J3.kIn.keeps kp) (LT.keeps kp) (Heap.get?_push_size h3 rfl) hb1).here ?_
    revert fl5 up5
    generalize h3.push { cls := .type "tuple", data := .seq [c1, c2].toArray } = h5
    intro fl5 up5
    cases b with
    | true =>
      refine codeAny_handlers_suite ?_
      refine HandSPX.lands_againZ fl5 fun h4 fl4 up4 => ?_
      have J4 : Inv X pins σ' H' { s' with heap := h4 } := J.landed nb fl4.1 (((up.trans up3).trans up5).trans up4) os ag
      obtain ⟨oe4, vs4, he4, hz4, hd4⟩ := fl4.there
      have S4 := J4.suite he4 hd4 na nL nF
      refine wpAny_mono ((hsu a oe4 cls d (X.pn ++ pins) hz4 ⟨_, hd4⟩).run [] _ _ H' _ S4 (hyes rfl a na)) (fun f s6 hsp => ?_) (fun _ _ z => False.elim z)
      cases f with
      | next =>
        obtain ⟨σ6, H6, S6, q6⟩ := hsp
        exact ⟨_, _, S6.unsuite ok, q6⟩
      | brk =>
        obtain ⟨σ6, H6, S6, q6⟩ := hsp
        exact ⟨_, _, S6.unsuite ok, q6⟩
      | cont =>
        obtain ⟨σ6, H6, S6, q6⟩ := hsp
        exact ⟨_, _, S6.unsuite ok, q6⟩
      | ret u =>
        obtain ⟨v6, σ6, H6, S6, r6, q6⟩ := hsp
        exact ⟨_, _, _, S6.unsuite ok, r6, q6⟩
    | false =>
      show wpAny _ X.A (handleBy (.ref a) X.env []) _ _ _
      refine wpAny_handleBy_nil ?_
      obtain ⟨k1, k2, k3, oe, vs, T, oT, ts', he, hz, hd, h1, hr⟩ := id fl5
      unfold PySem.passOn
      refine wpAny_bind (wpAny_field he hd h1 ?_)
      rw [if_neg (show ¬ ((Value.ref T == Value.none) = true) from by simp)]
      have fin : wpAny (model X.prog X.w) X.A (setFlight (.ref a) X.env.frame) (fun _ s4 => wpAny (model X.prog X.w) X.A (throw (.ref a) : Sem Flow) (SP X pins D) X.xe s4) X.xe { s' with heap := h5 } := by
        rw [hf]
        refine HandSPX.setFlight_upZ fl5 fun h4 hh4 up4 => wpAny_throw (tk _ _ ?_)
        exact ⟨a, B, sI, pins, σ', H', cls, d, rfl, J, nb, ((up.trans up3).trans up5).trans up4, .inr (.inr (by rw [hs]; exact hh4)), na, os, ag, hno rfl⟩
      first
        | exact wpAny_bind (wpAny_pure (wpAny_bind fin))
        | exact wpAny_bind fin
  · cases f with
    | next =>
      obtain ⟨σ', H', J', q⟩ := hsp
      exact wpAny_execs_nil ⟨σ', H', J'.ofTry ok, q⟩
    | brk =>
      obtain ⟨σ', H', J', q⟩ := hsp
      exact ⟨σ', H', J'.ofTry ok, q⟩
    | cont =>
      obtain ⟨σ', H', J', q⟩ := hsp
      exact ⟨σ', H', J'.ofTry ok, q⟩
    | ret u =>
      obtain ⟨v, σ', H', J', r, q⟩ := hsp
      exact ⟨v, σ', H', J'.ofTry ok, r, q⟩
end
end CaX
namespace MP
open PySem PySem.Spec PyProof.Rows L2
variable [TabsP]
def noXS : RS → RS
  | .exc _ _ _ => .stuck
  | r => r
def bTry2 (tbl : List (Str × Bool)) (ts b : SF) : SF := fun env M => match b env M with
  | .exc x env1 M1 => (match tbl.lookup x.c with
    | some true => noXS (ts env1 M1)
    | some false => .exc x env1 M1
    | none => .stuck)
  | r => r
def ExmT2 (K : PySem.W.Frag) (c1 c2 : Str) (tbl : List (Str × Bool)) : Prop := ∀ c b, tbl.lookup c = some b → PySem.W.exmAny K (.ref (He.ga K c)) [.ref (He.ga K c1), .ref (He.ga K c2)] = some b
theorem exmT2_nil {K : PySem.W.Frag} {c1 c2 : Str} : ExmT2 K c1 c2 [] := fun _ _ h => nomatch h
theorem exmT2_cons {K : PySem.W.Frag} {c1 c2 c : Str} {b1 b2 : Bool} {tbl : List (Str × Bool)} (h1 : (Fm.exm c c1 b1).ok K = true) (h2 : (Fm.exm c c2 b2).ok K = true) (t : ExmT2 K c1 c2 tbl) : ExmT2 K c1 c2 ((c, b1 || b2) :: tbl) := fun c' b' e => by
  rw [List.lookup_cons] at e
  split at e
  · rename_i q
    cases e
    rw [eq_of_beq q]
    have q1 : PySem.W.exmOne K (.ref (He.ga K c)) (.ref (He.ga K c1)) = some b1 := of_decide_eq_true h1
    have q2 : PySem.W.exmOne K (.ref (He.ga K c)) (.ref (He.ga K c2)) = some b2 := of_decide_eq_true h2
    unfold PySem.W.exmAny PySem.W.exmAny PySem.W.exmAny
    rw [q1, q2]
    cases b1 <;> cases b2 <;> rfl
  · exact t c' b' e
section
variable [T0 : ThkP] {X : Cx} {W : WX} {DR : DRel} {body suite : List Stmt} {b₀ : Stmt} {b ts : SF} {pos pos' p1 p2 tp : Pos} {cn1 cn2 x1 x2 : Str} {kk : Nat} {tbl : List (Str × Bool)}
theorem ss_try2 (hs : X.stack = X.env :: X.outer) (hf : X.env.frame = some X.env.locals)
    (n1 : Names X x1 (.ref (He.ga X.K cn1))) (n2 : Names X x2 (.ref (He.ga X.K cn2))) (tk : Takes X W) (ht : ExmT2 X.K cn1 cn2 tbl)
    (hb : ∀ (W' : WX) (pn : List (Addr × Obj)) (xe : Value → Shared → Prop), Takes (X.tr pn xe) W' → PassesOwn (model X.prog X.w) X.A X.env xe → SSs (X.tr pn xe) W' DR body b)
    (hsu : ∀ (a : Addr) (oe : Obj) (pn : List (Addr × Obj)), SSs (X.suite a ((a, oe) :: pn)) WN DR (b₀ :: suite) ts) :
    SS X W DR (.Try body [.ExceptHandler (some (.Tuple [.Name x1 p1, .Name x2 p2] kk tp)) none (b₀ :: suite) pos'] [] [] pos) (bTry2 tbl ts b) := by
  refine PS.imp (CaX.ps_try_only2 (X := X) hs hf n1 n2 tk (tb := fun W' => tS X.K W' DR b) (ts := fun _ _ _ => tS X.K WN DR ts) hb (fun a oe cls d pn _ _ => hsu a oe pn)) fun D σ H ⟨N0, F, Ad, M, env, g, m, en, r⟩ => ?_
  refine ⟨N0, F, Ad, M, env, g, m, en, ?_⟩
  unfold bTry2 at r
  cases q : b env M with
  | next env1 M1 => rw [q] at r; exact r
  | ret d M1 => rw [q] at r; exact r
  | brk env1 M1 => rw [q] at r; exact r
  | cont env1 M1 => rw [q] at r; exact r
  | stuck => rw [q] at r; exact r
  | exc x env1 M1 =>
    rw [q] at r
    intro cls dx σ1 F1 Ad1 H1 g1 l1 p1 m1 en1 hx
    obtain ⟨rfl, hx⟩ := hx
    dsimp only at r
    split at r
    · rename_i ec
      refine ⟨true, ht _ _ ec, fun _ a na => ?_, fun z => (by cases z)⟩
      refine ⟨N0, F1, Ad1, M1, env1, g1, m1, en1, ?_⟩
      have r2 := RPS.gr r l1 p1
      revert r2
      generalize ts env1 M1 = rr
      intro r2
      cases rr with
      | exc _ _ _ => exact r2.elim
      | stuck => exact r2.elim
      | next _ _ => exact r2
      | ret _ _ => exact r2
      | brk _ _ => exact r2
      | cont _ _ => exact r2
    · rename_i ec
      exact ⟨false, ht _ _ ec, fun z => (by cases z), fun _ => r _ _ σ1 F1 Ad1 H1 g1 l1 p1 m1 en1 ⟨rfl, hx⟩⟩
    · exact r.elim
end
end MP
set_option maxRecDepth 100000
set_option maxHeartbeats 2000000
namespace MP
open PySem PySem.Spec PyProof.Rows L2
variable [TabsP]
section
variable [T0 : ThkP] {X : Cx} {W : WX} {K : PySem.W.Frag} {x : Xc} {p : Addr × Obj} {pn : List (Addr × Obj)} {i kk : Nat} {n y1 y2 cn1 cn2 f : Str} {tbl1 tbl2 : List (Str × Bool)} {p1 p2 p3 p4 p5 pos : Pos}
end
end MP
set_option maxRecDepth 100000
set_option maxHeartbeats 1000000
namespace MP
open PySem PySem.Spec PyProof.Rows L2
theorem ics_nil {P : Str → Prop} : ∀ c ∈ ([] : List Str), P c := fun _ h => nomatch h
theorem ics_cons {P : Str → Prop} {a : Str} {l : List Str} (h : P a) (t : ∀ c ∈ l, P c) : ∀ c ∈ a :: l, P c := List.forall_mem_cons.mpr ⟨h, t⟩
variable [TabsP] [ThkP]
section
variable {X : Cx}
def oAddL (x y : D) (M : List D) : R := match view M x, view M y with
  | .lst a, .lst b => if a.length + b.length ≤ sizeLine then .ok (.lst (a ++ b)) M else .stuck
  | _, _ => .stuck
theorem op2_addO : Op2 X (DO X.K) (binaryOp .Add) oAddL := by
  intro pins s σ H F Ad M E x y v u dx dy Q I m rx ry hx hy r
  have ax := DB.view m hx
  have ay := DB.view m hy
  unfold oAddL at r
  revert r ax ay
  generalize view M dx = ex
  generalize view M dy = ey
  intro r ax ay
  split at r
  · rename_i a b
    split at r
    · rename_i h
      obtain ⟨p, vs, rfl, h1, d1⟩ := ax.lst m
      obtain ⟨q, ws, rfl, h2, d2⟩ := ay.lst m
      have l1 := d1.length
      have l2 := d2.length
      exact op_cat pins s σ H _ _ v u Q I rx ry ⟨p, q, vs, ws, rfl, rfl, h1, h2, by omega, fun c hc => RP.ownLst r m (d1.append d2) hc⟩
    · exact r.elim
  · exact r.elim
end
end MP
set_option maxRecDepth 100000
set_option maxHeartbeats 1000000
namespace MP
open PySem PySem.Spec PyProof.Rows L2
structure TbF (K : PySem.W.Frag) (w : World) (x : Str) (vs : List (Str × He.Dv)) : Prop where
  ky : He.dicW K (He.ga K x) = some (He.keysIn w.params (vs.map (·.1)))
  vl : He.valsB K (He.ga K x) vs = true
theorem TbF.ok {K : PySem.W.Frag} {w : World} {x : Str} {vs : List (Str × He.Dv)} (t : TbF K w x vs) : TbOk K w x vs := ⟨He.dicW_ok t.ky, t.vl⟩
theorem SaysMT.tf {fa : List He.Fa} {fm : List Fm} {fn : List DefM} {ts : List Tb} {w : World} {K : PySem.W.Frag} (c : SaysMT fa fm fn ts w K) (i : Nat) {t : Tb} (h : ts[i]? = some t) : TbF K w t.1 t.2 := by
  have e : ts.map (fun t => (He.dicW K (He.ga K t.1), He.valsB K (He.ga K t.1) t.2)) = ts.map fun t => (some (He.keysIn w.params (t.2.map (·.1))), true) := congrArg (fun z : AlMT => z.2) c
  have e2 := congrArg (fun l : List (Option (List (Option (Str × Int))) × Bool) => l[i]?) e
  simp only [List.getElem?_map, h, Option.map_some, Option.some.injEq, Prod.mk.injEq] at e2
  exact ⟨e2.1, e2.2⟩
theorem keys_miss {P : Params} {z : Str} : ∀ {l : List DictEntry} {ks : List Str}, l.map He.keyOf = He.keysIn P ks → z ∉ ks → l.find? (·.key.isStr z) = none ∧ l.any (·.refKey) = false
  | [], _, _, _ => ⟨rfl, rfl⟩
  | e :: r, [], h, _ => by cases h
  | e :: r, k :: ks, h, hz => by
    have h1 : He.keyOf e :: r.map He.keyOf = some (k, PyData.keyHash P k) :: He.keysIn P ks := h
    injection h1 with h2 h3
    obtain ⟨i1, i2⟩ := keys_miss h3 fun q => hz (List.mem_cons_of_mem _ q)
    unfold He.keyOf at h2
    split at h2
    · rename_i y t q
      have h4 := Option.some.inj h2
      obtain ⟨h5, h6⟩ := Prod.mk.inj h4
      have ne : e.key.isStr z = false := by
        rw [q]
        show (y == z) = false
        rw [h5]
        exact beq_eq_false_iff_ne.mpr fun w => hz (by rw [w]; simp)
      have nr : e.refKey = false := by
        unfold DictEntry.refKey
        rw [q]
      refine ⟨?_, ?_⟩
      · rw [List.find?_cons, ne]; exact i1
      · rw [List.any_cons, nr, i2]; rfl
    · cases h2
theorem TbF.miss {K : PySem.W.Frag} {w : World} {x z : Str} {vs : List (Str × He.Dv)} (t : TbF K w x vs) (h : vs.find? (fun q => decide (q.1 = z)) = none) : PySem.W.nsIn K (He.ga K x) z = some none := by
  have hz : z ∉ vs.map (·.1) := fun hm => by
    obtain ⟨q, hq, e⟩ := List.mem_map.mp hm
    have := List.find?_eq_none.mp h q hq
    exact this (decide_eq_true e)
  have k := t.ky
  unfold He.dicW at k
  unfold PySem.W.nsIn
  split at k
  · rename_i c es n sl q
    rw [q]
    split at k
    · obtain ⟨i1, i2⟩ := keys_miss (Option.some.inj k) hz
      dsimp only
      rw [i1]
      dsimp only
      rw [i2]
      rfl
    · cases k
  · cases k
variable [TabsP] [ThkP]
def tabGetR (vs : List (Str × He.Dv)) (y : D) (M : List D) : R := match view M y with
  | .str z => (match vs.find? (fun q => decide (q.1 = z)) with
    | none => .ok .non M
    | some _ => (match lookT vs z with
      | some d => .ok d M
      | none => .stuck))
  | _ => .stuck
def eTabGet (vs : List (Str × He.Dv)) (f : EF) : EF := fun env M => (f env M).bind (tabGetR vs)
section
variable {X : Cx} {W : WX} {K : PySem.W.Frag} {DR : DRel} {N0 : Ent} {F H : Hp} {Ad : List Addr} {M : List D} {env : EnvM} {σ : St} {Q : VK} {e o tg : Expr} {es : List Expr} {f fo fe : EF} {l : LF} {pos p apos cpos : Pos} {k n : Nat} {g : Addr} {dd : List D} {c : List D → List D → R}
theorem se_tabGetN {x : Str} {vs : List (Str × He.Dv)} (t0 : TbF X.K X.w x vs) (ho : PE X (.Name x p) (fun _ H Q => Q (.ref (He.ga X.K x)) H)) (he : SE X W e f) (mm : M1 X (.Name x p) "get" apos e cpos) : SE X W (.Call (.Attribute (.Name x p) "get" apos) [e] [] cpos) (eTabGet vs f) := by
  have t := t0.ok
  refine ⟨fun pins s σ H Q I ⟨N0, F, Ad, M, env, m, en, r⟩ => ?_⟩
  refine wpAny_Call_method mm.base mm.few mm.line PySem.F.plainAttrs_dict PySem.F.slot_dict_get PySem.F.type_dict_get (thn (ho.run pins s σ H (fun v H1 => v = .ref (He.ga X.K x) ∧ H1 = H) I ⟨rfl, rfl⟩) fun u s1 ⟨v, H1, I1, rx, q1⟩ => ?_)
  obtain ⟨rfl, rfl⟩ := q1
  obtain rfl : u = Value.ref _ := rx
  obtain ⟨es0, n0, kd0⟩ := t.kd
  have hm := PySem.W.mapOf_K (prog := X.prog) (w := X.w) I1.kIn kd0.at_ kd0.lit
  refine ⟨hm.typeIs, fun b z => by cases z; exact ⟨_, I1.kIn _ _ kd0.at_, rfl⟩, ?_⟩
  rw [mm.trees]
  refine Calls.callWith_builtin rfl (Calls.evalArgs_plain (Calls.spliced_cons (thn (he.run pins s1 σ _ _ I1 (tG_seq (DR' := DE X.K) (Q' := fun v H2 => ∃ F2 Ad2 M2 d, MemOk X.K F2 Ad2 M2 H2 ∧ Den X.K F2 Ad2 v d ∧ RP X.K (fun c d H => W c d σ H) (DE X.K) F2 Ad2 H2 Q (tabGetR vs d M2)) DE.ok m en r fun d M1 v F1 Ad1 H1 g1 m1 en1 x1 r1 => ⟨F1, Ad1, M1, d, m1, x1, r1⟩)) fun iv s2 ⟨y, H2, I2, ry, F2, Ad2, M2, d, m2, x2, r2⟩ => Calls.spliced_nil ?_)))
  have ax := DB.view (H0 := H2) m2 (.inl x2)
  unfold tabGetR at r2
  split at r2
  · rename_i z e1
    rw [e1] at ax
    rw [ax.str] at ry
    obtain ⟨tk, rfl⟩ := (show ∃ t, iv = Value.str z t from ry)
    split at r2
    · rename_i hn
      obtain ⟨es, n, kd⟩ := t.kd
      have h1 := t0.miss hn
      have hm2 := PySem.W.mapOf_K (prog := X.prog) (w := X.w) I2.kIn kd.at_ kd.lit
      refine call_meetsIn PySem.F.slot_dict_get hm2.typeIs PySem.F.entry_dict_get (PySem.F.args_dict_get_2 _ _) (meets_dict_get (strKind X.prog X.w) _ (strKind_is X.prog X.w z tk) kd.low) ⟨_, hm2, ?_⟩
      rw [PySem.W.find_K kd.at_ h1]
      exact ⟨.non, H2, I2.tok _, rfl, RP.here r2 m2 .non⟩
    · split at r2
      · rename_i d' h
        obtain ⟨es, n, u, v', kd, h1, h2, h3⟩ := lookT_ok (F := F2) (Ad := Ad2) t h
        have hm2 := PySem.W.mapOf_K (prog := X.prog) (w := X.w) I2.kIn kd.at_ kd.lit
        refine call_meetsIn PySem.F.slot_dict_get hm2.typeIs PySem.F.entry_dict_get (PySem.F.args_dict_get_2 _ _) (meets_dict_get (strKind X.prog X.w) _ (strKind_is X.prog X.w z tk) kd.low) ⟨_, hm2, ?_⟩
        rw [PySem.W.find_K kd.at_ h1]
        exact ⟨v', H2, I2.tok _, h2, RP.here r2 m2 h3⟩
      · exact r2.elim
  · exact r2.elim
end
end MP
set_option maxRecDepth 100000
set_option maxHeartbeats 1000000
namespace MP
open PySem PySem.Spec PyProof.Rows L2
variable [TabsP] [ThkP]
section
variable {X : Cx} {W : WX} {DR : DRel} {k n : Nat} {g : Addr} {dd : List D} {c : List D → List D → R} {y : Str} {p pos : Pos}
theorem s_call0 (dr : DRok DR) (Fk : FnX X DR k n g dd c) (hr : Room k X.A) (hx : Pas X W) (hg : Gl X y) (hm : X.mg y = some (.ref g)) (hdb : (y == ("__debug__" : Str)) = false := by decide) :
    PE X (.Call (.Name y p) [] [] pos) (tG X.K W DR (eCall (apC c n dd) lNil)) := by
  refine ⟨fun pins s σ H Q I ⟨N0, F, Ad, M, env, m, en, r⟩ => ?_⟩
  obtain ⟨fd, ps, dvs, ws, Fo, hb, hv, hd, hk⟩ := id Fk.ex
  refine wpAny_Call_Name_kw (ld_glob I hg hm ?_ hdb)
  refine PySem.W.callWith_K0 I.kIn hk ?_
  exact run_fnK (us := []) (vs := []) (ds := []) Fk hr hx I m .nil .nil r
end
end MP
set_option maxRecDepth 100000
set_option maxHeartbeats 1000000
namespace HP
open PySem L2
def hauls (n : Nat) : List (Nat × Nat) := (List.range (n - 1)).flatMap fun i => (List.range (n - (i + 1))).map fun k => (i, i + 1 + k)
def leO (a b : Option Int) : Prop := ∀ y, b = some y → ∃ x, a = some x ∧ x ≤ y
theorem leO.refl (a : Option Int) : leO a a := fun y h => ⟨y, h, Int.le_refl y⟩
theorem leO.trans {a b c : Option Int} (h : leO a b) (k : leO b c) : leO a c := fun y e => by
  obtain ⟨x, e1, l1⟩ := k y e
  obtain ⟨z, e2, l2⟩ := h x e1
  exact ⟨z, e2, by omega⟩
theorem leO.anti {a b : Option Int} (h : leO a b) (k : leO b a) : a = b := by
  cases b with
  | some y =>
    obtain ⟨x, e1, l1⟩ := h y rfl
    subst e1
    obtain ⟨z, e2, l2⟩ := k x rfl
    cases e2
    congr 1; omega
  | none =>
    cases a with
    | none => rfl
    | some x => obtain ⟨z, e2, _⟩ := k x rfl; cases e2
theorem leO.none {a : Option Int} : leO a none := fun _ h => nomatch h
theorem leO.some_ {x y : Int} (h : x ≤ y) : leO (some x) (some y) := fun z e => by cases e; exact ⟨x, rfl, h⟩
def addO : Option Int → Option Int → Option Int
  | some x, some y => some (x + y)
  | _, _ => none
def minO : Option Int → Option Int → Option Int
  | none, b => b
  | a, none => a
  | some x, some y => some (min x y)
theorem minO_l {a b : Option Int} : leO (minO a b) a := fun y e => by
  subst e
  cases b with
  | none => exact ⟨y, rfl, Int.le_refl y⟩
  | some z => exact ⟨min y z, rfl, Int.min_le_left y z⟩
theorem le_minO {t a b : Option Int} (h : leO t a) (k : leO t b) : leO t (minO a b) := fun y e => by
  cases a with
  | none => exact k y e
  | some x =>
    cases b with
    | none => exact h y e
    | some z =>
      cases e
      obtain ⟨p, e1, l1⟩ := h x rfl
      obtain ⟨q, e2, l2⟩ := k z rfl
      rw [e1] at e2
      cases e2
      exact ⟨p, e1, by omega⟩
theorem addO_mono {a b c d : Option Int} (h : leO a c) (k : leO b d) : leO (addO a b) (addO c d) := fun y e => by
  cases c with
  | none => cases e
  | some x =>
    cases d with
    | none => cases e
    | some z =>
      cases e
      obtain ⟨p, e1, l1⟩ := h x rfl
      obtain ⟨q, e2, l2⟩ := k z rfl
      subst e1 e2
      exact ⟨p + q, rfl, by omega⟩
abbrev Tab := Nat → Nat → Option Int
def At (n i j : Nat) : Prop := i < j ∧ j < n
structure Keeps (w : Str) (n : Nat) (f : Tab) : Prop where
  long : w ≠ "parts" → ∀ i j k l, k ≤ i → i < j → j ≤ l → l < n → leO (f i j) (f k l)
  parts : w ≠ "long" → ∀ i j k, i < j → j < k → k < n → leO (f i k) (addO (f i j) (f j k))
def Below (n : Nat) (f g : Tab) : Prop := ∀ i j, At n i j → leO (f i j) (g i j)
structure IsCl (w : Str) (n : Nat) (g c : Tab) : Prop where
  below : Below n c g
  keeps : Keeps w n c
  top : ∀ t, Keeps w n t → Below n t g → Below n t c
theorem IsCl.uniq {w : Str} {n : Nat} {g c d : Tab} (h : IsCl w n g c) (k : IsCl w n g d) : ∀ i j, At n i j → c i j = d i j := fun i j v =>
  (k.top c h.keeps h.below i j v).anti (h.top d k.keeps k.below i j v)
theorem IsCl.self {w : Str} {n : Nat} {c : Tab} (h : Keeps w n c) : IsCl w n c c := ⟨fun _ _ _ => leO.refl _, h, fun _ _ b => b⟩
theorem IsCl.congr {w : Str} {n : Nat} {g g' c : Tab} (h : IsCl w n g c) (e : ∀ i j, At n i j → g i j = g' i j) : IsCl w n g' c :=
  ⟨fun i j v => by rw [← e i j v]; exact h.below i j v, h.keeps, fun t k b => h.top t k fun i j v => by rw [e i j v]; exact b i j v⟩
theorem Keeps.congr {w : Str} {n : Nat} {f f' : Tab} (h : Keeps w n f) (e : ∀ i j, At n i j → f i j = f' i j) : Keeps w n f' :=
  ⟨fun hw i j k l h1 h2 h3 h4 => by rw [← e i j ⟨h2, by omega⟩, ← e k l ⟨by omega, h4⟩]; exact h.long hw i j k l h1 h2 h3 h4,
   fun hw i j k h1 h2 h3 => by rw [← e i k ⟨by omega, h3⟩, ← e i j ⟨h1, by omega⟩, ← e j k ⟨h2, h3⟩]; exact h.parts hw i j k h1 h2 h3⟩
def NN (n : Nat) (g : Tab) : Prop := ∀ i j v, At n i j → g i j = some v → 0 ≤ v
theorem IsCl.nn {w : Str} {n : Nat} {g c : Tab} (h : IsCl w n g c) (hg : NN n g) : NN n c := fun i j v a e => by
  have k0 : Keeps w n (fun _ _ => some 0) := ⟨fun _ _ _ _ _ _ _ _ _ => leO.refl _, fun _ _ _ _ _ _ _ => leO.refl _⟩
  obtain ⟨x, e1, l1⟩ := h.top _ k0 (fun i j a y e => ⟨0, rfl, hg i j y a e⟩) i j a v e
  cases e1; exact l1
def fits (w : Str) (a b s : Nat) : Prop := if w = "parts" then a = s else a ≤ s ∧ s < b
instance {w : Str} {a b s : Nat} : Decidable (fits w a b s) := by unfold fits; exact inferInstance
inductive Way (w : Str) (n : Nat) (g : Tab) (i : Nat) : Nat → Int → List (Nat × Nat) → Prop
  | nil : Way w n g i i 0 []
  | snoc {s c cs a b p} : Way w n g i s c cs → At n a b → g a b = some p → fits w a b s → Way w n g i b (c + p) (cs ++ [(a, b)])
theorem fits_lt {w : Str} {n a b s : Nat} (v : At n a b) (h : fits w a b s) : s < b := by
  unfold fits at h
  split at h
  · subst h; exact v.1
  · exact h.2
section
variable {w : Str} {n : Nat} {g : Tab} {i e : Nat} {c : Int} {cs : List (Nat × Nat)}
theorem Way.ge (h : Way w n g i e c cs) : i ≤ e := by
  induction h with
  | nil => exact Nat.le_refl _
  | snoc _ v _ f ih => have := fits_lt v f; omega
theorem Way.nn (hg : NN n g) (h : Way w n g i e c cs) : 0 ≤ c := by
  induction h with
  | nil => exact Int.le_refl _
  | snoc _ v hp f ih => have := hg _ _ _ v hp; omega
theorem Way.lt (h : Way w n g i e c cs) (hi : i < n) : e < n := by
  cases h with
  | nil => exact hi
  | snoc _ v _ _ => exact v.2
theorem Way.app (hw : w = "parts") {j f : Nat} {d : Int} {ds : List (Nat × Nat)} (h : Way w n g i j c cs) (k : Way w n g j f d ds) : Way w n g i f (c + d) (cs ++ ds) := by
  induction k with
  | nil => simpa using h
  | snoc _ v hp f ih =>
    have := Way.snoc ih v hp f
    rw [Int.add_assoc, List.append_assoc] at this
    exact this
theorem Way.shift (hw : w ≠ "parts") (hg : NN n g) {j e f : Nat} {d : Int} {ds : List (Nat × Nat)} (h : Way w n g i e c cs) (hj : j ≤ e) (k : Way w n g j f d ds) : ∃ f' d' ds', f ≤ f' ∧ d' ≤ c + d ∧ Way w n g i f' d' ds' := by
  induction k with
  | nil => exact ⟨e, c, cs, hj, by omega, h⟩
  | @snoc s x xs a b p k' v hp fi ih =>
    obtain ⟨f', d', ds', l1, l2, q⟩ := ih
    have hpn := hg a b p v hp
    by_cases hb : b ≤ f'
    · exact ⟨f', d', ds', hb, by omega, q⟩
    · have fi2 : fits w a b f' := by
        unfold fits at fi ⊢
        rw [if_neg hw] at fi ⊢
        omega
      exact ⟨b, d' + p, _, Nat.le_refl _, by omega, q.snoc v hp fi2⟩
theorem Way.top {t : Tab} (ht : Keeps w n t) (hl : w ≠ "long") (b : Below n t g) (hw : w ≠ "parts") (h : Way w n g i e c cs) : ∀ j, i < j → j ≤ e → leO (t i j) (some c) := by
  induction h with
  | nil => intro j h1 h2; omega
  | @snoc s x xs a b' p k v hp fi ih =>
    intro j h1 h2
    have hpt := b a b' v
    rw [hp] at hpt
    unfold fits at fi
    rw [if_neg hw] at fi
    have hx : ∀ j, s < j → j ≤ b' → leO (t s j) (some p) := fun j h1 h2 => (ht.long hw s j a b' fi.1 h1 h2 v.2).trans hpt
    have gs := k.ge
    by_cases hs : j ≤ s
    · by_cases p0 : 0 ≤ p
      · exact (ih j h1 hs).trans (leO.some_ (by omega))
      · -- a price below 0: by the whole haul
        have h3 : leO (t i b') (some (x + p)) := by
          rcases Nat.lt_or_ge i s with z | z
          · have := ht.parts hl i s b' z fi.2 v.2
            exact this.trans (addO_mono (ih s z (Nat.le_refl _)) (hx b' fi.2 (Nat.le_refl _)))
          · omega
        exact (ht.long hw i j i b' (Nat.le_refl _) h1 h2 v.2).trans h3
    · rcases Nat.lt_or_ge i s with z | z
      · exact (ht.parts hl i s j z (by omega) (by have := v.2; omega)).trans (addO_mono (ih s z (Nat.le_refl _)) (hx j (by omega) h2))
      · have e : i = s := by omega
        subst e
        cases k with
        | nil => simpa using hx j h1 h2
        | snoc k2 v2 _ f2 => have := k2.ge; have := fits_lt v2 f2; omega
theorem Way.belowP {t : Tab} (ht : Keeps w n t) (b : Below n t g) (hw : w = "parts") (h : Way w n g i e c cs) : i < e → leO (t i e) (some c) := by
  induction h with
  | nil => intro h; omega
  | @snoc s x xs a b' p k v hp fi ih =>
    intro h1
    have hpt := b a b' v
    rw [hp] at hpt
    unfold fits at fi
    rw [if_pos hw] at fi
    subst fi
    rcases Nat.lt_or_ge i a with z | z
    · exact (ht.parts (by subst hw; decide) i a b' z v.1 v.2).trans (addO_mono (ih z) hpt)
    · have e : i = a := by have := k.ge; omega
      subst e
      cases k with
      | nil => simpa using hpt
      | snoc k2 v2 _ f2 => have := k2.ge; have := fits_lt v2 f2; omega
end
def endsOk (w : Str) (e j : Nat) : Prop := if w = "parts" then e = j else j ≤ e
def Cover (w : Str) (n : Nat) (g : Tab) (i j : Nat) (c : Int) (cs : List (Nat × Nat)) : Prop :=
  if w = "long" then ∃ k l, k ≤ i ∧ j ≤ l ∧ At n k l ∧ g k l = some c ∧ cs = [(k, l)] else ∃ e, Way w n g i e c cs ∧ endsOk w e j
abbrev Wy := Int × List (Nat × Nat)
structure CovOk (w : Str) (n : Nat) (g : Tab) (cov : Nat → Nat → Option Wy) : Prop where
  sound : ∀ i j c cs, At n i j → cov i j = some (c, cs) → Cover w n g i j c cs
  opt : ∀ i j c cs, At n i j → Cover w n g i j c cs → ∃ c' cs', cov i j = some (c', cs') ∧ c' ≤ c
def costO (o : Option Wy) : Option Int := o.map (·.1)
def words : List Str := ["both", "long", "parts"]
theorem CovOk.cl {w : Str} {n : Nat} {g : Tab} (hg : NN n g) {cov : Nat → Nat → Option Wy} (h : CovOk w n g cov) : IsCl w n g (fun i j => costO (cov i j)) := by
  have le_of : ∀ {i j c cs y}, At n i j → Cover w n g i j c cs → c ≤ y → ∃ x, costO (cov i j) = some x ∧ x ≤ y := fun {i j c cs y} a q ly => by
    obtain ⟨c', cs', e, l⟩ := h.opt i j c cs a q
    rw [e]; exact ⟨c', rfl, by omega⟩
  have get : ∀ {i j y}, At n i j → costO (cov i j) = some y → ∃ cs, Cover w n g i j y cs := fun {i j y} a e => by
    cases q : cov i j with
    | none => rw [q] at e; cases e
    | some p => rw [q] at e; cases e; exact ⟨p.2, h.sound i j p.1 p.2 a q⟩
  have one : ∀ {i j y}, At n i j → g i j = some y → Cover w n g i j y [(i, j)] := fun {i j y} a e => by
    unfold Cover
    split
    · exact ⟨i, j, Nat.le_refl _, Nat.le_refl _, a, e, rfl⟩
    · have f : fits w i j i := by unfold fits; split <;> have := a.1 <;> omega
      have := Way.snoc (Way.nil (w := w) (n := n) (g := g) (i := i)) a e f
      exact ⟨j, by simpa using this, by unfold endsOk; split <;> simp⟩
  refine ⟨fun i j a y e => le_of a (one a e) (Int.le_refl _), ⟨fun hp i j k l h1 h2 h3 h4 y e => ?_, fun hl i j k h1 h2 h3 y e => ?_⟩, fun t kt bt i j a y e => ?_⟩
  · obtain ⟨cs, q⟩ := get ⟨by omega, h4⟩ e
    have a : At n i j := ⟨h2, by omega⟩
    unfold Cover at q
    split at q
    · rename_i hl
      obtain ⟨p, r, e1, e2, e3, e4, _⟩ := q
      exact le_of a (cs := [(p, r)]) (by unfold Cover; rw [if_pos hl]; exact ⟨p, r, by omega, by omega, e3, e4, rfl⟩) (Int.le_refl _)
    · rename_i hl
      obtain ⟨f, wy, ef⟩ := q
      unfold endsOk at ef
      rw [if_neg hp] at ef
      obtain ⟨f', d', ds', z1, z2, z3⟩ := Way.shift hp hg (Way.nil (i := i)) h1 wy
      exact le_of a (cs := ds') (by unfold Cover; rw [if_neg hl]; exact ⟨f', z3, by unfold endsOk; rw [if_neg hp]; omega⟩) (by omega)
  · cases q1 : costO (cov i j) with
    | none => rw [q1] at e; cases e
    | some y1 =>
      cases q2 : costO (cov j k) with
      | none => rw [q1, q2] at e; cases e
      | some y2 =>
        rw [q1, q2] at e
        cases e
        obtain ⟨cs, s1⟩ := get ⟨h1, by omega⟩ q1
        obtain ⟨ds, s2⟩ := get ⟨h2, h3⟩ q2
        have a : At n i k := ⟨by omega, h3⟩
        unfold Cover at s1 s2
        rw [if_neg hl] at s1 s2
        obtain ⟨e1, w1, f1⟩ := s1
        obtain ⟨e2, w2, f2⟩ := s2
        by_cases hp : w = "parts"
        · unfold endsOk at f1 f2
          rw [if_pos hp] at f1 f2
          subst f1 f2
          exact le_of a (cs := cs ++ ds) (by unfold Cover; rw [if_neg hl]; exact ⟨_, w1.app hp w2, by unfold endsOk; rw [if_pos hp]⟩) (Int.le_refl _)
        · unfold endsOk at f1 f2
          rw [if_neg hp] at f1 f2
          obtain ⟨f', d', ds', z1, z2, z3⟩ := Way.shift hp hg w1 f1 w2
          exact le_of a (cs := ds') (by unfold Cover; rw [if_neg hl]; exact ⟨f', z3, by unfold endsOk; rw [if_neg hp]; omega⟩) z2
  · obtain ⟨cs, q⟩ := get a e
    unfold Cover at q
    split at q
    · rename_i hl
      obtain ⟨p, r, e1, e2, e3, e4, _⟩ := q
      have := (kt.long (by rw [hl]; decide) i j p r e1 a.1 e2 e3.2).trans (bt p r e3)
      rw [e4] at this
      exact this y rfl
    · rename_i hl
      obtain ⟨f, wy, ef⟩ := q
      unfold endsOk at ef
      by_cases hp : w = "parts"
      · rw [if_pos hp] at ef
        subst ef
        exact Way.belowP kt bt hp wy a.1 y rfl
      · rw [if_neg hp] at ef
        exact Way.top kt hl bt hp wy j a.1 ef y rfl
end HP
set_option maxRecDepth 100000
set_option maxHeartbeats 1000000
namespace HP
open PySem L2
structure PassOk (w : Str) (n : Nat) (f f' : Tab) : Prop where
  low : Below n f' f
  top : ∀ t, Keeps w n t → Below n t f → Below n t f'
  lng : w ≠ "parts" → ∀ i j k l, k ≤ i → i < j → j ≤ l → l < n → leO (f' i j) (f k l)
  prt : w ≠ "long" → ∀ i j k, i < j → j < k → k < n → leO (f' i k) (addO (f i j) (f j k))
inductive Ch (w : Str) (n : Nat) (g : Tab) : Nat → Tab → Prop
  | zero : Ch w n g 0 g
  | succ {t f f'} : Ch w n g t f → PassOk w n f f' → Ch w n g (t + 1) f'
section
variable {w : Str} {n : Nat} {g f : Tab} {t i e : Nat} {c : Int} {cs : List (Nat × Nat)}
theorem Ch.low (h : Ch w n g t f) : Below n f g := by
  induction h with
  | zero => exact fun _ _ _ => leO.refl _
  | succ _ p ih => exact fun i j a => (p.low i j a).trans (ih i j a)
theorem Ch.top (h : Ch w n g t f) : ∀ u, Keeps w n u → Below n u g → Below n u f := by
  induction h with
  | zero => exact fun _ _ b => b
  | succ _ p ih => exact fun u k b => p.top u k (ih u k b)
theorem Ch.lng (h : Ch w n g t f) (ht : 1 ≤ t) (hw : w ≠ "parts") {i j k l : Nat} (h1 : k ≤ i) (h2 : i < j) (h3 : j ≤ l) (h4 : l < n) : leO (f i j) (g k l) := by
  cases h with
  | zero => omega
  | succ q p => exact (p.lng hw i j k l h1 h2 h3 h4).trans (q.low k l ⟨by omega, h4⟩)
theorem Way.len (h : Way w n g i e c cs) : i + cs.length ≤ e := by
  induction h with
  | nil => simp
  | snoc _ v _ f ih => have := fits_lt v f; simp; omega
theorem Way.ne (h : Way w n g i e c cs) (hi : i < e) : 1 ≤ cs.length := by
  cases h with
  | nil => omega
  | snoc => simp
theorem Ch.both (hg : NN n g) (hl : w ≠ "long") (hw : w ≠ "parts") (k : Way w n g i e c cs) : ∀ {t f}, Ch w n g t f → cs.length ≤ t → ∀ j, i < j → j ≤ e → leO (f i j) (some c) := by
  induction k with
  | nil => intro t f _ _ j h1 h2; omega
  | @snoc s x xs a b p k v hp fi ih =>
    intro t f h hlen j h1 h2
    have pn := hg a b p v hp
    have fi2 : a ≤ s ∧ s < b := by unfold fits at fi; rw [if_neg hw] at fi; exact fi
    simp at hlen
    have hx : ∀ {t f}, Ch w n g t f → 1 ≤ t → ∀ j, s < j → j ≤ b → leO (f s j) (some p) := fun h h0 j h1 h2 => by
      have := h.lng h0 hw fi2.1 h1 h2 v.2
      rw [hp] at this; exact this
    by_cases hs : j ≤ s
    · exact (ih h (by omega) j h1 hs).trans (leO.some_ (by omega))
    · rcases Nat.lt_or_ge i s with z | z
      · have l1 := k.ne z
        cases h with
        | zero => omega
        | succ q pp =>
          exact (pp.prt hl i s j z (by omega) (by have := v.2; omega)).trans (addO_mono (ih q (by omega) s z (Nat.le_refl _)) (hx q (by omega) j (by omega) h2))
      · have es : i = s := by have := k.ge; omega
        subst es
        cases k with
        | nil => simpa using hx h (by omega) j h1 h2
        | snoc k2 v2 _ f2 => have := k2.ge; have := fits_lt v2 f2; omega
theorem Ch.parts (hw : w = "parts") (k : Way w n g i e c cs) : ∀ {t f}, Ch w n g t f → cs.length ≤ t → i < e → leO (f i e) (some c) := by
  induction k with
  | nil => intro t f _ _ h; omega
  | @snoc s x xs a b p k v hp fi ih =>
    intro t f h hlen h1
    have fi2 : a = s := by unfold fits at fi; rw [if_pos hw] at fi; exact fi
    subst fi2
    simp at hlen
    have hx : ∀ {t f}, Ch w n g t f → leO (f a b) (some p) := fun h => by
      have := h.low a b v
      rw [hp] at this; exact this
    rcases Nat.lt_or_ge i a with z | z
    · have l1 := k.ne z
      cases h with
      | zero => omega
      | succ q pp => exact (pp.prt (by rw [hw]; decide) i a b z v.1 v.2).trans (addO_mono (ih q (by omega) z) (hx q))
    · have es : i = a := by have := k.ge; omega
      subst es
      cases k with
      | nil => simpa using hx h
      | snoc k2 v2 _ f2 => have := k2.ge; have := fits_lt v2 f2; omega
theorem Ch.cl (hg : NN n g) {cov : Nat → Nat → Option Wy} (hc : CovOk w n g cov) (h : Ch w n g t f) (ht : n ≤ t) : IsCl w n g f := by
  have c0 := hc.cl hg
  have le : ∀ i j, At n i j → leO (f i j) (costO (cov i j)) := fun i j a y e => by
    cases q : cov i j with
    | none => rw [q] at e; cases e
    | some p =>
      rw [q] at e
      cases e
      have s := hc.sound i j p.1 p.2 a q
      unfold Cover at s
      split at s
      · rename_i hl
        obtain ⟨k, l, e1, e2, e3, e4, _⟩ := s
        have := h.lng (by have := a.1; have := a.2; omega) (by rw [hl]; decide) e1 a.1 e2 e3.2
        rw [e4] at this
        exact this _ rfl
      · rename_i hl
        obtain ⟨f1, wy, ef⟩ := s
        have len := wy.len
        have lt := wy.lt (by have := a.1; have := a.2; omega)
        unfold endsOk at ef
        by_cases hp : w = "parts"
        · rw [if_pos hp] at ef
          subst ef
          exact Ch.parts hp wy h (by omega) a.1 _ rfl
        · rw [if_neg hp] at ef
          exact Ch.both hg hl hp wy h (by omega) j a.1 ef _ rfl
  have ee : ∀ i j, At n i j → costO (cov i j) = f i j := fun i j a => (h.top _ c0.keeps c0.below i j a).anti (le i j a)
  exact ⟨h.low, c0.keeps.congr ee, h.top⟩
theorem Ch.stop (h : Ch w n g t f) {f' : Tab} (p : PassOk w n f f') (e : ∀ i j, At n i j → f' i j = f i j) : IsCl w n g f := by
  refine ⟨h.low, ⟨fun hw i j k l h1 h2 h3 h4 => ?_, fun hw i j k h1 h2 h3 => ?_⟩, h.top⟩
  · rw [← e i j ⟨h2, by omega⟩]; exact p.lng hw i j k l h1 h2 h3 h4
  · rw [← e i k ⟨by omega, h3⟩]; exact p.prt hw i j k h1 h2 h3
end
def up2 (f : Tab) (i j : Nat) (v : Option Int) : Tab := fun a b => if a = i ∧ b = j then v else f a b
theorem up2_same {f : Tab} {i j : Nat} {v : Option Int} : up2 f i j v i j = v := by simp [up2]
theorem up2_ne {f : Tab} {i j a b : Nat} {v : Option Int} (h : ¬ (a = i ∧ b = j)) : up2 f i j v a b = f a b := by simp [up2, h]
structure Mid (w : Str) (n : Nat) (f h : Tab) : Prop where
  low : Below n h f
  top : ∀ t, Keeps w n t → Below n t f → Below n t h
section
variable {w : Str} {n : Nat} {f h : Tab}
theorem Mid.refl : Mid w n f f := ⟨fun _ _ _ => leO.refl _, fun _ _ b => b⟩
theorem Mid.trans {k : Tab} (a : Mid w n f h) (b : Mid w n h k) : Mid w n f k := ⟨fun i j v => (b.low i j v).trans (a.low i j v), fun t q r => b.top t q (a.top t q r)⟩
theorem up_low {i j : Nat} {v : Option Int} : Below n (up2 h i j (minO (h i j) v)) h := fun a b _ => by
  by_cases e : a = i ∧ b = j
  · obtain ⟨rfl, rfl⟩ := e; rw [up2_same]; exact minO_l
  · rw [up2_ne e]; exact leO.refl _
theorem Mid.lng (hw : w ≠ "parts") {i j k l : Nat} (h1 : k ≤ i) (h2 : i < j) (h3 : j ≤ l) (h4 : l < n) : Mid w n h (up2 h i j (minO (h i j) (h k l))) :=
  ⟨up_low, fun t q b a c v => by
    by_cases e : a = i ∧ c = j
    · obtain ⟨rfl, rfl⟩ := e
      rw [up2_same]
      exact le_minO (b a c v) ((q.long hw a c k l h1 h2 h3 h4).trans (b k l ⟨by omega, h4⟩))
    · rw [up2_ne e]; exact b a c v⟩
theorem Mid.prt (hw : w ≠ "long") {i j k : Nat} (h1 : i < j) (h2 : j < k) (h3 : k < n) : Mid w n h (up2 h i k (minO (h i k) (addO (h i j) (h j k)))) :=
  ⟨up_low, fun t q b a c v => by
    by_cases e : a = i ∧ c = k
    · obtain ⟨rfl, rfl⟩ := e
      rw [up2_same]
      exact le_minO (b a c v) ((q.parts hw a j c h1 h2 h3).trans (addO_mono (b a j ⟨h1, by omega⟩) (b j c ⟨h2, h3⟩)))
    · rw [up2_ne e]; exact b a c v⟩
end
end HP
set_option maxRecDepth 100000
set_option maxHeartbeats 1000000
namespace HP
open PySem L2
section
variable {w : Str} {n : Nat} {f h : Tab} {i j : Nat}
end
end HP
set_option maxRecDepth 100000
set_option maxHeartbeats 1000000
namespace MP
open PySem L2
section
variable {f g fa fb fc fk fv a b c : EF} {l l1 l2 : LF} {env : EnvM} {M : List D} {p q : SF} {i j n : Nat} {d x y : D}
@[simp] theorem view_non : view M .non = .non := rfl
@[simp] theorem view_bl {z} : view M (.bl z) = .bl z := rfl
@[simp] theorem view_str {z} : view M (.str z) = .str z := rfl
@[simp] theorem view_intD {z} : view M (.int z) = .int z := rfl
@[simp] theorem view_tup {z} : view M (.tup z) = .tup z := rfl
@[simp] theorem view_ktp {z} : view M (.ktp z) = .ktp z := rfl
@[simp] theorem view_lst {z} : view M (.lst z) = .lst z := rfl
@[simp] theorem view_dT {z} : view M (.dT z) = .dT z := rfl
@[simp] theorem view_dK {z} : view M (.dK z) = .dK z := rfl
@[simp] theorem eDcT_eq {gd ft fe vs} : eDcT l gd ft fk fe vs env M = (l env M).bind fun ds M1 => dcompT gd ft fk fe (wipeE env vs) ds [] M1 := rfl
@[simp] theorem guD_true {r : R} : guD true r = r := rfl
@[simp] theorem eGet1_eq {fo} : eGet1 fo fk env M = (fo env M).bind fun x M1 => guD (dictD (view M1 x)) ((fk env M1).bind fun y M2 => getR .non (getD (view M2 x) y) M2) := rfl
@[simp] theorem eGet2_eq {fo fd} : eGet2 fo fk fd env M = (fo env M).bind fun x M1 => guD (dictD (view M1 x)) ((fk env M1).bind fun y M2 => (fd env M2).bind fun z M3 => getR z (getD (view M3 x) y) M3) := rfl
@[simp] theorem dictD_dK {z} : dictD (.dK z) = true := rfl
@[simp] theorem dictD_dT {z} : dictD (.dT z) = true := rfl
@[simp] theorem getD_dKi {kvs} {z : Int} : getD (.dK kvs) (.int z) = some (valK kvs (.inl z)) := rfl
@[simp] theorem getD_dKs {kvs} {z : Str} : getD (.dK kvs) (.str z) = some (valK kvs (.inr z)) := rfl
@[simp] theorem getR_some : getR d (some (some x)) M = .ok x M := rfl
@[simp] theorem getR_none : getR d (some none) M = .ok d M := rfl
@[simp] theorem bParO_eq : bParO i j fa fb env M = (fa env M).bindS env fun d M1 => (fb env M1).bindS env fun d2 M2 => setR ((gN i d env).bind (oN j d2)) M2 := rfl
@[simp] theorem bPar3_eq {k} : bPar3 i j k fa fb fc env M = (fa env M).bindS env fun d M1 => (fb env M1).bindS env fun d2 M2 => (fc env M2).bindS env fun d3 M3 => setR (gAll [i, j, k] [d, d2, d3] env) M3 := rfl
def dispR (k : Option Key) (y : D) (M : List D) : R := match k with
  | some k => .ok (.dK [(k, y)]) M
  | none => .stuck
@[simp] theorem dispR_some {k} : dispR (some k) y M = .ok (.dK [(k, y)]) M := rfl
@[simp] theorem eDisp1_eq : eDisp1 fk fv env M = (fk env M).bind fun x M1 => (fv env M1).bind fun y M2 => dispR (keyD x) y M2 := rfl
@[simp] theorem keyD_int {z : Int} : keyD (.int z) = some (.inl z) := rfl
@[simp] theorem keyD_str {z : Str} : keyD (.str z) = some (.inr z) := rfl
def starR (o : Option (List D)) (r : RL) : RL := match o with
  | some ds => r.bindL fun ys M2 => .ok (ds ++ ys) M2
  | none => .stuck
@[simp] theorem starR_some {ds r} : starR (some ds) r = r.bindL fun ys M2 => .ok (ds ++ ys) M2 := rfl
@[simp] theorem lStar_eq : lStar f l env M = (f env M).bindL fun x M1 => starR (starD (view M1 x)) (l env M1) := rfl
@[simp] theorem starD_tup {ds} : starD (.tup ds) = some ds := rfl
@[simp] theorem starD_lst {ds} : starD (.lst ds) = some ds := rfl
@[simp] theorem eCallQ_eq {c n np nk ix dd} : eCallQ c n np nk ix dd l1 l2 env M = (l1 env M).bind fun xs M1 => (l2 env M1).bind fun ys M2 => apQ c n np nk ix dd xs ys M2 := rfl
theorem apQ_of {c : List D → List D → R} {n np nk ix dd xs ys zs} (h : xs.length = np ∧ ys.length = nk ∧ (pickL ix (xs ++ ys ++ dd)).length = n) (e : pickL ix (xs ++ ys ++ dd) = zs) : apQ c n np nk ix dd xs ys M = c zs M := by
  subst e; unfold apQ; rw [if_pos h]
@[simp] theorem apQ_11 {c : List D → List D → R} : apQ c 2 1 1 [0, 1] [] [x] [y] M = c [x, y] M := apQ_of ⟨rfl, rfl, rfl⟩ rfl
@[simp] theorem apQ_02 {c : List D → List D → R} : apQ c 2 0 2 [1, 0] [] [] [x, y] M = c [y, x] M := apQ_of ⟨rfl, rfl, rfl⟩ rfl
@[simp] theorem isN_str {z} : (D.str z).isN = false := rfl
@[simp] theorem isN_bl {z} : (D.bl z).isN = false := rfl
@[simp] theorem isN_lst {z} : (D.lst z).isN = false := rfl
@[simp] theorem isN_dT {z} : (D.dT z).isN = false := rfl
@[simp] theorem isN_ins {z w} : (D.ins z w).isN = false := rfl
@[simp] theorem oEq_str {z w : Str} : oEq (.str z) (.str w) M = .ok (.bl (z == w)) M := rfl
@[simp] theorem oNe_str {z w : Str} : oNe (.str z) (.str w) M = .ok (.bl (!(z == w))) M := rfl
@[simp] theorem forK_cont {gd ds} : forK gd p ds (.cont env M) = forL gd p ds env M := rfl
@[simp] theorem forK_brk {gd ds} : forK gd p ds (.brk env M) = .next env M := rfl
@[simp] theorem endE_exc {x} : endE (.exc x env M) = .exc x M := rfl
end
end MP
namespace HP
open MP PySem L2
abbrev hD (i j : Nat) : D := .tup [.int i, .int j]
abbrev hK (i j : Nat) : List Key := [.inl (i : Int), .inl (j : Int)]
abbrev hKp (h : Nat × Nat) : List Key := hK h.1 h.2
def tab (n : Nat) (f : Nat → Nat → D) : List (List Key × D) := (hauls n).map fun h => (hKp h, f h.1 h.2)
def od : Option Int → D
  | none => .non
  | some v => .int v
@[simp] theorem od_none : od none = .non := rfl
@[simp] theorem od_some {v} : od (some v) = .int v := rfl
@[simp] theorem keysD_h {i j : Int} : keysD [.int i, .int j] = some [.inl i, .inl j] := rfl
end HP
set_option maxRecDepth 100000
set_option maxHeartbeats 1000000
namespace HP
open MP PySem L2
def sOk (s : Str) : Bool := s.cps.all (· < 0x110000)
def pl : Nat → D → Bool
  | _, .non => true
  | _, .bl _ => true
  | _, .int i => decide (i.natAbs.log2 < 1920)
  | _, .str s => sOk s
  | k + 1, .tup xs => xs.all (pl k)
  | k + 1, .lst xs => xs.all (pl k)
  | _, _ => false
def nb : Nat → D → Bool
  | _, .bl _ => false
  | k + 1, .tup xs => xs.all (nb k)
  | k + 1, .lst xs => xs.all (nb k)
  | _, _ => true
end HP
set_option maxRecDepth 100000
set_option maxHeartbeats 1000000
namespace HP
open MP
open PySem PySem.Spec PyProof.Rows L2
def N__law_menu : List Str := [("_law_page" : Str), ("_law_none" : Str), ("_law_some" : Str), ("_law_papers" : Str)]
def b__law_menu : SF := (bSeq (bSetT [0, 1] (eTup (lCons (eC (.str "stops 3\n0 1 0 5\n0 2 7 9\n1 2 0 5")) (lCons (eC (.str "stops 3\n0 1 0 3\n0 2 7 9\n1 2 1 3")) lNil)))) (bSeq (bOwn 2 (eLst (lCons (eTup (lCons (eTup (lCons (eC (.str "fits")) (lCons (eV 0) (lCons (eC (.str "both")) lNil)))) (lCons (eTup (lCons (eTup (lCons (eC (.int 4)) (lCons (eC (.int 7)) lNil))) (lCons (eTup (lCons (eC (.int 3)) lNil)) lNil))) lNil))) (lCons (eTup (lCons (eTup (lCons (eC (.str "none")) (lCons (eV 1) (lCons (eC (.str "both")) lNil)))) (lCons (eTup (lCons (eTup (lCons (eC (.int 0)) (lCons (eC (.int 2)) lNil))) (lCons (eTup (lCons (eTup (lCons (eC (.int 0)) (lCons (eC (.int 1)) lNil))) (lCons (eTup (lCons (eC (.int 1)) (lCons (eC (.int 2)) lNil))) lNil))) lNil))) lNil))) lNil)))) (bSeq (bApp 2 (eTup (lCons (eTup (lCons (eC (.str "most")) (lCons (eV 0) (lCons (eC (.str "both")) (lCons (eTup (lCons (eC (.int 0)) (lCons (eC (.int 2)) lNil))) (lCons (eC (.int 9)) lNil)))))) (lCons (eTup (lCons (eTup (lCons (eC (.int 0)) (lCons (eC (.int 2)) lNil))) lNil)) lNil)))) (bSeq (bApp 2 (eTup (lCons (eTup (lCons (eC (.str "least")) (lCons (eV 0) (lCons (eC (.str "both")) (lCons (eTup (lCons (eC (.int 0)) (lCons (eC (.int 1)) lNil))) (lCons (eC (.int 2)) lNil)))))) (lCons (eTup (lCons (eTup (lCons (eC (.int 0)) (lCons (eC (.int 2)) lNil))) (lCons (eTup lNil) (lCons (eTup (lCons (eTup (lCons (eC (.int 1)) (lCons (eC (.int 2)) lNil))) lNil)) lNil)))) lNil)))) (bSeq (bApp 2 (eTup (lCons (eTup (lCons (eC (.str "can")) (lCons (eV 0) (lCons (eC (.str "both")) (lCons (eTup (lCons (eC (.int 1)) (lCons (eC (.int 2)) lNil))) (lCons (eC (.int 2)) lNil)))))) (lCons (eTup (lCons (eTup (lCons (eC (.int 5)) (lCons (eC (.int 7)) lNil))) (lCons (eTup (lCons (eC (.int 2)) lNil)) lNil))) lNil)))) (bSeq (bSet 3 (eTup (lCons (eTup lNil) (lCons (eTup (lCons (eTup (lCons (eC (.int 0)) (lCons (eC (.int 2)) lNil))) (lCons (eTup lNil) (lCons (eTup lNil) lNil)))) (lCons (eTup (lCons (eTup (lCons (eC (.int 1)) (lCons (eC (.int 2)) lNil))) (lCons (eTup lNil) (lCons (eTup lNil) lNil)))) lNil))))) (bSeq (bApp 2 (eTup (lCons (eTup (lCons (eC (.str "lowest")) (lCons (eC (.str "stops 3\n0 2 7 9\n1 2 7 -")) (lCons (eC (.str "both")) lNil)))) (lCons (eTup (lCons (eTup (lCons (eTup (lCons (eC (.int 0)) (lCons (eC (.int 7)) lNil))) (lCons (eTup (lCons (eC (.int 7)) lNil)) lNil))) (lCons (eV 3) lNil))) lNil)))) (bSeq (bApp 2 (eTup (lCons (eTup (lCons (eC (.str "no lowest")) (lCons (eV 0) (lCons (eC (.str "both")) lNil)))) (lCons (eTup (lCons (eC (.int 0)) (lCons (eC (.int 1)) (lCons (eC (.int 2)) (lCons (eTup (lCons (eTup (lCons (eC (.int 2)) (lCons (eC (.int 7)) lNil))) (lCons (eTup (lCons (eC (.int 5)) lNil)) lNil))) (lCons (eTup (lCons (eTup (lCons (eC (.int 5)) (lCons (eC (.int 7)) lNil))) (lCons (eTup (lCons (eC (.int 2)) lNil)) lNil))) (lCons (eTup (lCons (eTup (lCons (eC (.int 0)) (lCons (eC (.int 2)) lNil))) (lCons (eTup lNil) (lCons (eTup lNil) lNil)))) lNil))))))) lNil)))) (bSeq (bShare 2) (bRet (eV 2)))))))))))
def c__law_menu (ds M : List D) : R := endE (b__law_menu (env0 N__law_menu.length ds) M)
def N_is_rules : List Str := [("value" : Str)]
def b_is_rules : SF := (bRet (eAnd (e1 (oIsi (isT "str" ["Bounds", "Ledger"])) (eVB 0)) (e2 oIn (eVB 0) (eC (.ktp ([("both" : Str), ("long" : Str), ("parts" : Str)].map D.str))))))
def c_is_rules (ds M : List D) : R := endE (b_is_rules (env0 N_is_rules.length ds) M)
def N_InvalidText___init__ : List Str := [("self" : Str), ("given" : Str)]
def N_number_in : List Str := [("word" : Str), ("sign" : Str)]
def b_number_in_1 : EF := (e2 oInS (eVB 1) (eC (.str "0123456789")))
def b_number_in : SF := (bSeq (bIf (eOr (e2 oEq (eVB 0) (eC (.str ""))) (eOr (eNot (eCall bAll (lCons (eComp (iTxt (eV 0)) (gN 1) (eC (.bl true)) b_number_in_1 [1]) lNil))) (eAnd (e2 oEq (e2 oIx (eVB 0) (eC (.int 0))) (eC (.str "0"))) (e2 oNe (eVB 0) (eC (.str "0")))))) (bRet (eC .non)) bNext) (bRet (eCall bIntT (lCons (eVB 0) lNil))))
def c_number_in (ds M : List D) : R := endE (b_number_in (env0 N_number_in.length ds) M)
def N_stops_in : List Str := [("line" : Str), ("words" : Str), ("stops" : Str)]
def b_stops_in : SF := (bSeq (bSet 1 (eTx splitR (eVB 0) (eC (.str " ")))) (bSeq (bSet 2 (eIf (eAnd (e2 oEq (eCall bLen (lCons (eVB 1) lNil)) (eC (.int 2))) (e2 oEq (e2 oIx (eVB 1) (eC (.int 0))) (eC (.str "stops")))) (eCall (apC c_number_in 1 []) (lCons (e2 oIx (eVB 1) (eC (.int 1))) lNil)) (eC .non))) (bRet (eIf (eAnd (e2 oIsnt (eVB 2) (eC .non)) (eChain oLe oLe (eC (.int 2)) (eVB 2) (eC (.int 10)))) (eV 2) (eC .non)))))
def c_stops_in (ds M : List D) : R := endE (b_stops_in (env0 N_stops_in.length ds) M)
def N_WrongRow___init__ : List Str := [("self" : Str), ("index" : Str)]
def N_is_integer : List Str := [("value" : Str)]
def b_is_integer : SF := (bRet (eAnd (e1 (oIsi (isT "int" ["Bounds", "Ledger"])) (eVB 0)) (eNot (e1 (oIsi (isT "bool" ["Bounds", "Ledger"])) (eVB 0)))))
def c_is_integer (ds M : List D) : R := endE (b_is_integer (env0 N_is_integer.length ds) M)
def N_is_haul : List Str := [("value" : Str), ("stops" : Str), ("stop" : Str)]
def b_is_haul_1 : EF := (eCall (apC c_is_integer 1 []) (lCons (eV 2) lNil))
def b_is_haul : SF := (bSeq (bIf (eOr (eNot (e1 (oIsi (isT "tuple" ["Bounds", "Ledger"])) (eVB 0))) (eOr (e2 oNe (eCall bLen (lCons (eVB 0) lNil)) (eC (.int 2))) (eNot (eCall bAll (lCons (eComp (iSeq (eV 0)) (gN 2) (eC (.bl true)) b_is_haul_1 [2]) lNil))))) (bRet (eC (.bl false))) bNext) (bRet (eChain3 oLe oLt oLt (eC (.int 0)) (e2 oIx (eVB 0) (eC (.int 0))) (e2 oIx (eVB 0) (eC (.int 1))) (eVB 1))))
def c_is_haul (ds M : List D) : R := endE (b_is_haul (env0 N_is_haul.length ds) M)
def N_is_within : List Str := [("value" : Str), ("low" : Str), ("high" : Str)]
def b_is_within : SF := (bRet (eAnd (eCall (apC c_is_integer 1 []) (lCons (eV 0) lNil)) (eChain oLe oLe (eVB 1) (eVB 0) (eVB 2))))
def c_is_within (ds M : List D) : R := endE (b_is_within (env0 N_is_within.length ds) M)
def N_is_price : List Str := [("value" : Str)]
def b_is_price : SF := (bRet (eCall (apC c_is_within 3 []) (lCons (eV 0) (lCons (eC (.int 0)) (lCons (eC (.int 1000000000000)) lNil)))))
def c_is_price (ds M : List D) : R := endE (b_is_price (env0 N_is_price.length ds) M)
def N_is_range : List Str := [("value" : Str), ("stops" : Str)]
def b_is_range : SF := (bSeq (bIf (eOr (eNot (e1 (oIsi (isT "tuple" ["Bounds", "Ledger"])) (eVB 0))) (eOr (e2 oNe (eCall bLen (lCons (eVB 0) lNil)) (eC (.int 3))) (eOr (eNot (eCall (apC c_is_haul 2 []) (lCons (e2 oIx (eVB 0) (eC (.int 0))) (lCons (eV 1) lNil)))) (eNot (eCall (apC c_is_price 1 []) (lCons (e2 oIx (eVB 0) (eC (.int 1))) lNil)))))) (bRet (eC (.bl false))) bNext) (bRet (eOr (e2 oIs (e2 oIx (eVB 0) (eC (.int 2))) (eC .non)) (eAnd (eCall (apC c_is_price 1 []) (lCons (e2 oIx (eVB 0) (eC (.int 2))) lNil)) (e2 oLe (e2 oIx (eVB 0) (eC (.int 1))) (e2 oIx (eVB 0) (eC (.int 2))))))))
def c_is_range (ds M : List D) : R := endE (b_is_range (env0 N_is_range.length ds) M)
def N_range_in : List Str := [("line" : Str), ("stops" : Str), ("words" : Str), ("numbers" : Str), ("found" : Str), ("word" : Str)]
def b_range_in_1 : EF := (eCall (apC c_number_in 1 []) (lCons (eV 5) lNil))
def b_range_in : SF := (bSeq (bSet 2 (eTx splitR (eVB 0) (eC (.str " ")))) (bSeq (bIf (e2 oNe (eCall bLen (lCons (eVB 2) lNil)) (eC (.int 4))) (bRet (eC .non)) bNext) (bSeq (bOwn 3 (eComp (iSeq (eV 2)) (gN 5) (eC (.bl true)) b_range_in_1 [5])) (bSeq (bShare 3) (bSeq (bSet 4 (eTup (lCons (eTup (lCons (e2 oIx (eVB 3) (eC (.int 0))) (lCons (e2 oIx (eVB 3) (eC (.int 1))) lNil))) (lCons (e2 oIx (eVB 3) (eC (.int 2))) (lCons (e2 oIx (eVB 3) (eC (.int 3))) lNil))))) (bRet (eIf (eAnd (eCall (apC c_is_range 2 []) (lCons (eV 4) (lCons (eV 1) lNil))) (eOr (e2 oIsnt (e2 oIx (eVB 3) (eC (.int 3))) (eC .non)) (e2 oEq (e2 oIx (eVB 2) (eC (.int 3))) (eC (.str "-"))))) (eV 4) (eC .non))))))))
def c_range_in (ds M : List D) : R := endE (b_range_in (env0 N_range_in.length ds) M)
def N_check_stops : List Str := [("stops" : Str)]
def b_check_stops : SF := (bIf (eNot (eCall (apC c_is_within 3 []) (lCons (eV 0) (lCons (eC (.int 2)) (lCons (eC (.int 10)) lNil))))) bStuck bNext)
def c_check_stops (ds M : List D) : R := endE (b_check_stops (env0 N_check_stops.length ds) M)
def N_Bounds___init__ : List Str := [("self" : Str), ("stops" : Str), ("ranges" : Str), ("index" : Str), ("one" : Str)]
def b_Bounds___init___1 : SF := (bIf (eOr (eNot (eCall (apC c_is_range 2 []) (lCons (eV 4) (lCons (eV 1) lNil)))) (eAnd (e2 oGt (eVB 3) (eC (.int 0))) (e2 oGeT (e2 oIx (e2 oIx (eVB 2) (e2 oSub (eVB 3) (eC (.int 1)))) (eC (.int 0))) (e2 oIx (eVB 4) (eC (.int 0)))))) bStuck bNext)
def b_Bounds___init__ : SF := (bSeq (bExpr (eCall (apC c_check_stops 1 []) (lCons (eV 1) lNil))) (bSeq (bIf (eNot (e1 (oIsi (isT "tuple" ["Bounds", "Ledger"])) (eVB 2))) bStuck bNext) (bSeq (bFor (iEnu (eV 2)) (gT [3, 4]) b_Bounds___init___1) (bFld 0 "Bounds" "all" (eTup (lCons (eV 1) (lCons (eV 2) lNil)))))))
def c_Bounds___init__ (ds M : List D) : R := endI (b_Bounds___init__ (env0I N_Bounds___init__.length "Bounds" ds) M)
def N_Bounds_read : List Str := [("cls" : Str), ("text" : Str), ("lines" : Str), ("stops" : Str), ("ranges" : Str), ("index" : Str), ("line" : Str), ("found" : Str)]
def b_Bounds_read_1 : SF := (bSeq (bSet 7 (eCall (apC c_range_in 2 []) (lCons (eV 6) (lCons (eV 3) lNil)))) (bSeq (bIf (eOr (e2 oIs (eVB 7) (eC .non)) (eAnd (e2 oNe (eVB 4) (eLst lNil)) (e2 oGeT (e2 oIx (e2 oIx (eVB 4) (e1 oNeg (eC (.int 1)))) (eC (.int 0))) (e2 oIx (eVB 7) (eC (.int 0)))))) (bRaiseL "WrongRow" "index" (lCons (e2 oAdd (eVB 5) (eC (.int 1))) lNil)) bNext) (bApp 4 (eV 7))))
def b_Bounds_read : SF := (bSeq (bIf (eNot (e1 (oIsi (isT "str" ["Bounds", "Ledger"])) (eVB 1))) (bRaiseL "InvalidText" "given" (lCons (eV 1) lNil)) bNext) (bSeq (bSet 2 (eTx splitR (eVB 1) (eC (.str "\n")))) (bSeq (bSet 3 (eCall (apC c_stops_in 1 []) (lCons (e2 oIx (eVB 2) (eC (.int 0))) lNil))) (bSeq (bIf (e2 oIs (eVB 3) (eC .non)) (bRaiseL "WrongRow" "index" (lCons (eC (.int 0)) lNil)) bNext) (bSeq (bOwn 4 (eLst lNil)) (bSeq (bFor (iEnu (eSl oSlE (eVB 2) (eInt (eC (.int 1))) (eC .non))) (gT [5, 6]) b_Bounds_read_1) (bRet (eCls 0 "Bounds" c_Bounds___init__ 2 [] (lCons (eV 3) (lCons (eCall bTup (lCons (eVB 4) lNil)) lNil))))))))))
def c_Bounds_read (ds M : List D) : R := endE (b_Bounds_read (env0 N_Bounds_read.length ds) M)
def N_bounds_in : List Str := [("text" : Str)]
def b_bounds_in : SF := (bTry2 [(("InvalidText" : Str), true), (("WrongRow" : Str), true)] (bRet (eC .non)) (bRet (eCM "Bounds" c_Bounds_read 2 [] (lCons (eV 0) lNil))))
def c_bounds_in (ds M : List D) : R := endE (b_bounds_in (env0 N_bounds_in.length ds) M)
def N_Bounds_stops : List Str := [("self" : Str)]
def b_Bounds_stops : SF := (bRet (e2 oIx (e1 (fldR "Bounds" "all") (eVB 0)) (eC (.int 0))))
def c_Bounds_stops (ds M : List D) : R := endE (b_Bounds_stops (env0 N_Bounds_stops.length ds) M)
def N_Bounds_ranges : List Str := [("self" : Str)]
def b_Bounds_ranges : SF := (bRet (e2 oIx (e1 (fldR "Bounds" "all") (eVB 0)) (eC (.int 1))))
def c_Bounds_ranges (ds M : List D) : R := endE (b_Bounds_ranges (env0 N_Bounds_ranges.length ds) M)
def N_hauls_of : List Str := [("stops" : Str), ("found" : Str), ("begin" : Str), ("end" : Str)]
def b_hauls_of_1 : EF := (eTup (lCons (eV 2) (lCons (eV 3) lNil)))
def b_hauls_of_2 : SF := (bSet 1 (e2 oAdd (eVB 1) (eComp (iRng2 (e2 oAdd (eVB 2) (eC (.int 1))) (eV 0)) (gN 3) (eC (.bl true)) b_hauls_of_1 [3])))
def b_hauls_of : SF := (bSeq (bSet 1 (eLst lNil)) (bSeq (bFor (iRng1 (e2 oSub (eVB 0) (eC (.int 1)))) (gN 2) b_hauls_of_2) (bRet (eV 1))))
def c_hauls_of (ds M : List D) : R := endE (b_hauls_of (env0 N_hauls_of.length ds) M)
def N_Bounds_leasts : List Str := [("self" : Str), ("told_here" : Str), ("haul" : Str), ("least" : Str), ("greatest" : Str)]
def b_Bounds_leasts_1 : EF := (eV 2)
def b_Bounds_leasts_2 : EF := (eV 3)
def b_Bounds_leasts_3 : EF := (eV 2)
def b_Bounds_leasts_4 : EF := (eGet2 (eVB 1) (eV 2) (eC (.int 0)))
def b_Bounds_leasts : SF := (bSeq (bSet 1 (eDcT (iSeq (e1 (propR "Bounds" c_Bounds_ranges) (eV 0))) (gT [2, 3, 4]) (eC (.bl true)) b_Bounds_leasts_1 b_Bounds_leasts_2 [2, 3, 4])) (bRet (eDcT (iSeq (eCall (apC c_hauls_of 1 []) (lCons (e1 (propR "Bounds" c_Bounds_stops) (eV 0)) lNil))) (gN 2) (eC (.bl true)) b_Bounds_leasts_3 b_Bounds_leasts_4 [2])))
def c_Bounds_leasts (ds M : List D) : R := endE (b_Bounds_leasts (env0 N_Bounds_leasts.length ds) M)
def N_Bounds_greatests : List Str := [("self" : Str), ("told_here" : Str), ("haul" : Str), ("least" : Str), ("greatest" : Str)]
def b_Bounds_greatests_1 : EF := (eV 2)
def b_Bounds_greatests_2 : EF := (eV 4)
def b_Bounds_greatests_3 : EF := (eV 2)
def b_Bounds_greatests_4 : EF := (eGet1 (eVB 1) (eV 2))
def b_Bounds_greatests : SF := (bSeq (bSet 1 (eDcT (iSeq (e1 (propR "Bounds" c_Bounds_ranges) (eV 0))) (gT [2, 3, 4]) (eC (.bl true)) b_Bounds_greatests_1 b_Bounds_greatests_2 [2, 3, 4])) (bRet (eDcT (iSeq (eCall (apC c_hauls_of 1 []) (lCons (e1 (propR "Bounds" c_Bounds_stops) (eV 0)) lNil))) (gN 2) (eC (.bl true)) b_Bounds_greatests_3 b_Bounds_greatests_4 [2])))
def c_Bounds_greatests (ds M : List D) : R := endE (b_Bounds_greatests (env0 N_Bounds_greatests.length ds) M)
def N_Question___init__ : List Str := [("self" : Str), ("bounds" : Str), ("rules" : Str)]
def b_Question___init__ : SF := (bSeq (bFld 0 "Question" "line" (e1 (propR "Bounds" c_Bounds_stops) (eV 1))) (bSeq (bFld 0 "Question" "kind" (eV 2)) (bSeq (bFld 0 "Question" "least" (eMeth "Bounds" "leasts" c_Bounds_leasts 1 [] (eV 1) lNil)) (bFld 0 "Question" "greatest" (eMeth "Bounds" "greatests" c_Bounds_greatests 1 [] (eV 1) lNil)))))
def c_Question___init__ (ds M : List D) : R := endI (b_Question___init__ (env0I N_Question___init__.length "Question" ds) M)
def N_question_in : List Str := [("claim" : Str), ("bounds" : Str)]
def b_question_in : SF := (bSeq (bIf (eOr (eNot (e1 (oIsi (isT "tuple" ["Bounds", "Ledger"])) (eVB 0))) (eOr (e2 oLt (eCall bLen (lCons (eVB 0) lNil)) (eC (.int 3))) (eNot (e1 (oIsi (isT "str" ["Bounds", "Ledger"])) (e2 oIx (eVB 0) (eC (.int 0))))))) (bRet (eC .non)) bNext) (bSeq (bIf (eOr (e2 oNe (eTabGet [("fits", .int 3), ("none", .int 3), ("most", .int 5), ("least", .int 5), ("can", .int 5), ("lowest", .int 3), ("no lowest", .int 3)] (e2 oIx (eVB 0) (eC (.int 0)))) (eCall bLen (lCons (eVB 0) lNil))) (eOr (eNot (eCall (apC c_is_rules 1 []) (lCons (e2 oIx (eVB 0) (eC (.int 2))) lNil))) (eAnd (e2 oEq (e2 oIx (eVB 0) (eC (.int 0))) (eC (.str "no lowest"))) (e2 oEq (e2 oIx (eVB 0) (eC (.int 2))) (eC (.str "long")))))) (bRet (eC .non)) bNext) (bSeq (bSet 1 (eCall (apC c_bounds_in 1 []) (lCons (e2 oIx (eVB 0) (eC (.int 1))) lNil))) (bSeq (bIf (eOr (e2 oIs (eVB 1) (eC .non)) (eAnd (e2 oEq (eCall bLen (lCons (eVB 0) lNil)) (eC (.int 5))) (eNot (eAnd (eCall (apC c_is_haul 2 []) (lCons (e2 oIx (eVB 0) (eC (.int 3))) (lCons (e1 (propR "Bounds" c_Bounds_stops) (eV 1)) lNil))) (eCall (apC c_is_integer 1 []) (lCons (e2 oIx (eVB 0) (eC (.int 4))) lNil)))))) (bRet (eC .non)) bNext) (bRet (eCall (apC c_Question___init__ 2 []) (lCons (eV 1) (lCons (e2 oIx (eVB 0) (eC (.int 2))) lNil))))))))
def c_question_in (ds M : List D) : R := endE (b_question_in (env0 N_question_in.length ds) M)
def N_are_prices : List Str := [("value" : Str), ("stops" : Str), ("index" : Str), ("row" : Str), ("one" : Str)]
def b_are_prices_1 : EF := (eAnd (eCall (apC c_is_integer 1 []) (lCons (eV 4) lNil)) (e2 oGe (eVB 4) (eC (.int 0))))
def b_are_prices_2 : SF := (bSeq (bIf (eOr (eNot (e1 (oIsi (isT "tuple" ["Bounds", "Ledger"])) (eVB 3))) (e2 oNe (eCall bLen (lCons (eVB 3) lNil)) (e2 oSub (e2 oSub (eVB 1) (eC (.int 1))) (eVB 2)))) (bRet (eC (.bl false))) bNext) (bIf (eNot (eCall bAll (lCons (eComp (iSeq (eV 3)) (gN 4) (eC (.bl true)) b_are_prices_1 [4]) lNil))) (bRet (eC (.bl false))) bNext))
def b_are_prices : SF := (bSeq (bIf (eOr (eNot (e1 (oIsi (isT "tuple" ["Bounds", "Ledger"])) (eVB 0))) (e2 oNe (eCall bLen (lCons (eVB 0) lNil)) (e2 oSub (eVB 1) (eC (.int 1))))) (bRet (eC (.bl false))) bNext) (bSeq (bFor (iEnu (eV 0)) (gT [2, 3]) b_are_prices_2) (bRet (eC (.bl true)))))
def c_are_prices (ds M : List D) : R := endE (b_are_prices (env0 N_are_prices.length ds) M)
def N_costs_in : List Str := [("prices" : Str), ("haul" : Str)]
def b_costs_in_1 : EF := (eV 1)
def b_costs_in_2 : EF := (e2 oIx (e2 oIx (eVB 0) (e2 oIx (eVB 1) (eC (.int 0)))) (e2 oSub (e2 oSub (e2 oIx (eVB 1) (eC (.int 1))) (e2 oIx (eVB 1) (eC (.int 0)))) (eC (.int 1))))
def b_costs_in : SF := (bRet (eDcT (iSeq (eCall (apC c_hauls_of 1 []) (lCons (e2 oAdd (eCall bLen (lCons (eVB 0) lNil)) (eC (.int 1))) lNil))) (gN 1) (eC (.bl true)) b_costs_in_1 b_costs_in_2 [1]))
def c_costs_in (ds M : List D) : R := endE (b_costs_in (env0 N_costs_in.length ds) M)
def N_lies_within : List Str := [("one" : Str), ("other" : Str)]
def b_lies_within : SF := (bRet (eAnd (e2 oLe (e2 oIx (eVB 1) (eC (.int 0))) (e2 oIx (eVB 0) (eC (.int 0)))) (e2 oLe (e2 oIx (eVB 0) (eC (.int 1))) (e2 oIx (eVB 1) (eC (.int 1))))))
def c_lies_within (ds M : List D) : R := endE (b_lies_within (env0 N_lies_within.length ds) M)
def N_triples_of : List Str := [("stops" : Str), ("found" : Str), ("begin" : Str), ("middle" : Str), ("end" : Str)]
def b_triples_of_1 : EF := (eTup (lCons (eV 2) (lCons (eV 3) (lCons (eV 4) lNil))))
def b_triples_of_2 : SF := (bSet 1 (e2 oAdd (eVB 1) (eComp (iRng2 (e2 oAdd (eVB 3) (eC (.int 1))) (eV 0)) (gN 4) (eC (.bl true)) b_triples_of_1 [4])))
def b_triples_of : SF := (bSeq (bSet 1 (eLst lNil)) (bSeq (bFor (iSeq (eCall (apC c_hauls_of 1 []) (lCons (eV 0) lNil))) (gT [2, 3]) b_triples_of_2) (bRet (eV 1))))
def c_triples_of (ds M : List D) : R := endE (b_triples_of (env0 N_triples_of.length ds) M)
def N_break_of : List Str := [("stops" : Str), ("costs" : Str), ("rules" : Str), ("one" : Str), ("other" : Str), ("begin" : Str), ("middle" : Str), ("end" : Str)]
def b_break_of_1 : SF := (bIf (eAnd (eCall (apC c_lies_within 2 []) (lCons (eV 3) (lCons (eV 4) lNil))) (e2 oGt (e2 oIx (eVB 1) (eVB 3)) (e2 oIx (eVB 1) (eVB 4)))) (bRet (eTup (lCons (eC (.str "long")) (lCons (eV 3) (lCons (eV 4) lNil))))) bNext)
def b_break_of_2 : SF := (bFor (iSeq (eCall (apC c_hauls_of 1 []) (lCons (eV 0) lNil))) (gN 4) b_break_of_1)
def b_break_of_3 : SF := (bIf (e2 oGt (e2 oIx (eVB 1) (eTup (lCons (eV 5) (lCons (eV 7) lNil)))) (e2 oAdd (e2 oIx (eVB 1) (eTup (lCons (eV 5) (lCons (eV 6) lNil)))) (e2 oIx (eVB 1) (eTup (lCons (eV 6) (lCons (eV 7) lNil)))))) (bRet (eTup (lCons (eC (.str "parts")) (lCons (eV 5) (lCons (eV 6) (lCons (eV 7) lNil)))))) bNext)
def b_break_of : SF := (bSeq (bIf (e2 oNe (eVB 2) (eC (.str "parts"))) (bFor (iSeq (eCall (apC c_hauls_of 1 []) (lCons (eV 0) lNil))) (gN 3) b_break_of_2) bNext) (bSeq (bIf (e2 oNe (eVB 2) (eC (.str "long"))) (bFor (iSeq (eCall (apC c_triples_of 1 []) (lCons (eV 0) lNil))) (gT [5, 6, 7]) b_break_of_3) bNext) (bRet (eC .non))))
def c_break_of (ds M : List D) : R := endE (b_break_of (env0 N_break_of.length ds) M)
def N_is_fitting : List Str := [("question" : Str), ("value" : Str), ("haul" : Str), ("cost" : Str), ("high" : Str)]
def b_is_fitting_1 : SF := (bSeq (bSet 4 (e2 oIx (e1 (fldR "Question" "greatest") (eVB 0)) (eVB 2))) (bIf (eOr (e2 oLt (eVB 3) (e2 oIx (e1 (fldR "Question" "least") (eVB 0)) (eVB 2))) (eAnd (e2 oIsnt (eVB 4) (eC .non)) (e2 oLt (eVB 4) (eVB 3)))) (bRet (eC (.bl false))) bNext))
def b_is_fitting : SF := (bSeq (bIf (eNot (eCall (apC c_are_prices 2 []) (lCons (eV 1) (lCons (e1 (fldR "Question" "line") (eVB 0)) lNil)))) (bRet (eC (.bl false))) bNext) (bSeq (bFor (iItm (eCall (apC c_costs_in 1 []) (lCons (eV 1) lNil))) (gT [2, 3]) b_is_fitting_1) (bRet (e2 oIs (eCall (apC c_break_of 3 []) (lCons (e1 (fldR "Question" "line") (eVB 0)) (lCons (eCall (apC c_costs_in 1 []) (lCons (eV 1) lNil)) (lCons (e1 (fldR "Question" "kind") (eVB 0)) lNil)))) (eC .non)))))
def c_is_fitting (ds M : List D) : R := endE (b_is_fitting (env0 N_is_fitting.length ds) M)
def N_fits_shown : List Str := [("question" : Str), ("claim" : Str), ("value" : Str)]
def b_fits_shown : SF := (bRet (eCall (apC c_is_fitting 2 []) (lCons (eV 0) (lCons (eV 2) lNil))))
def c_fits_shown (ds M : List D) : R := endE (b_fits_shown (env0 N_fits_shown.length ds) M)
def N_is_cover : List Str := [("question" : Str), ("haul" : Str), ("value" : Str), ("joints" : Str), ("steps" : Str), ("at" : Str), ("before" : Str), ("after" : Str), ("one" : Str)]
def b_is_cover_1 : EF := (eCall (apC c_is_haul 2 []) (lCons (eV 8) (lCons (e1 (fldR "Question" "line") (eVB 0)) lNil)))
def b_is_cover_2 : EF := (e2 oEq (e2 oIx (e2 oIx (eVB 2) (eVB 5)) (eC (.int 1))) (e2 oIx (e2 oIx (eVB 2) (e2 oAdd (eVB 5) (eC (.int 1)))) (eC (.int 0))))
def b_is_cover_3 : EF := (eTup (lCons (e2 oIx (eVB 2) (eVB 5)) (lCons (e2 oIx (eVB 2) (e2 oAdd (eVB 5) (eC (.int 1)))) lNil)))
def b_is_cover_4 : EF := (eChain oLe oLt (e2 oIx (eVB 7) (eC (.int 0))) (e2 oIx (eVB 6) (eC (.int 1))) (eCall bMin (lCons (e2 oIx (eVB 7) (eC (.int 1))) (lCons (e2 oIx (eVB 1) (eC (.int 1))) lNil))))
def b_is_cover : SF := (bSeq (bIf (eOr (eNot (e1 (oIsi (isT "tuple" ["Bounds", "Ledger"])) (eVB 2))) (eOr (e2 oEq (eVB 2) (eTup lNil)) (eNot (eCall bAll (lCons (eComp (iSeq (eV 2)) (gN 8) (eC (.bl true)) b_is_cover_1 [8]) lNil))))) (bRet (eC (.bl false))) bNext) (bSeq (bIf (e2 oEq (e1 (fldR "Question" "kind") (eVB 0)) (eC (.str "long"))) (bRet (eAnd (e2 oEq (eCall bLen (lCons (eVB 2) lNil)) (eC (.int 1))) (eCall (apC c_lies_within 2 []) (lCons (eV 1) (lCons (e2 oIx (eVB 2) (eC (.int 0))) lNil))))) bNext) (bSeq (bIf (e2 oEq (e1 (fldR "Question" "kind") (eVB 0)) (eC (.str "parts"))) (bSeq (bOwn 3 (eComp (iRng1 (e2 oSub (eCall bLen (lCons (eVB 2) lNil)) (eC (.int 1)))) (gN 5) (eC (.bl true)) b_is_cover_2 [5])) (bSeq (bShare 3) (bRet (eAnd (e2 oEq (e2 oIx (e2 oIx (eVB 2) (eC (.int 0))) (eC (.int 0))) (e2 oIx (eVB 1) (eC (.int 0)))) (eAnd (e2 oEq (e2 oIx (e2 oIx (eVB 2) (e1 oNeg (eC (.int 1)))) (eC (.int 1))) (e2 oIx (eVB 1) (eC (.int 1)))) (eCall bAll (lCons (eVB 3) lNil))))))) bNext) (bSeq (bIf (eOr (e2 oGt (e2 oIx (e2 oIx (eVB 2) (eC (.int 0))) (eC (.int 0))) (e2 oIx (eVB 1) (eC (.int 0)))) (e2 oLt (e2 oIx (e2 oIx (eVB 2) (e1 oNeg (eC (.int 1)))) (eC (.int 1))) (e2 oIx (eVB 1) (eC (.int 1))))) (bRet (eC (.bl false))) bNext) (bSeq (bOwn 4 (eComp (iRng1 (e2 oSub (eCall bLen (lCons (eVB 2) lNil)) (eC (.int 1)))) (gN 5) (eC (.bl true)) b_is_cover_3 [5])) (bSeq (bShare 4) (bRet (eCall bAll (lCons (eComp (iSeq (eV 4)) (gT [6, 7]) (eC (.bl true)) b_is_cover_4 [6, 7]) lNil)))))))))
def c_is_cover (ds M : List D) : R := endE (b_is_cover (env0 N_is_cover.length ds) M)
def N_cost_of : List Str := [("question" : Str), ("haul" : Str), ("value" : Str), ("costs" : Str), ("one" : Str)]
def b_cost_of_1 : EF := (e2 oIx (e1 (fldR "Question" "greatest") (eVB 0)) (eVB 4))
def b_cost_of : SF := (bSeq (bIf (eNot (eCall (apC c_is_cover 3 []) (lCons (eV 0) (lCons (eV 1) (lCons (eV 2) lNil))))) (bRet (eC .non)) bNext) (bSeq (bOwn 3 (eComp (iSeq (eV 2)) (gN 4) (eC (.bl true)) b_cost_of_1 [4])) (bSeq (bShare 3) (bRet (eIf (e2 (oInF false) (eC .non) (eVB 3)) (eC .non) (eCall bSum (lCons (eVB 3) lNil)))))))
def c_cost_of (ds M : List D) : R := endE (b_cost_of (env0 N_cost_of.length ds) M)
def N_none_shown : List Str := [("question" : Str), ("claim" : Str), ("value" : Str), ("cost" : Str)]
def b_none_shown : SF := (bSeq (bIf (eOr (eNot (e1 (oIsi (isT "tuple" ["Bounds", "Ledger"])) (eVB 2))) (eOr (e2 oNe (eCall bLen (lCons (eVB 2) lNil)) (eC (.int 2))) (eNot (eCall (apC c_is_haul 2 []) (lCons (e2 oIx (eVB 2) (eC (.int 0))) (lCons (e1 (fldR "Question" "line") (eVB 0)) lNil)))))) (bRet (eC (.bl false))) bNext) (bSeq (bSet 3 (eCall (apC c_cost_of 3 []) (lCons (eV 0) (lCons (e2 oIx (eVB 2) (eC (.int 0))) (lCons (e2 oIx (eVB 2) (eC (.int 1))) lNil))))) (bRet (eAnd (e2 oIsnt (eVB 3) (eC .non)) (e2 oLt (eVB 3) (e2 oIx (e1 (fldR "Question" "least") (eVB 0)) (e2 oIx (eVB 2) (eC (.int 0)))))))))
def c_none_shown (ds M : List D) : R := endE (b_none_shown (env0 N_none_shown.length ds) M)
def N_most_shown : List Str := [("question" : Str), ("claim" : Str), ("value" : Str), ("cost" : Str)]
def b_most_shown : SF := (bSeq (bSet 3 (eCall (apC c_cost_of 3 []) (lCons (eV 0) (lCons (e2 oIx (eVB 1) (eC (.int 3))) (lCons (eV 2) lNil))))) (bRet (eAnd (e2 oIsnt (eVB 3) (eC .non)) (e2 oLe (eVB 3) (e2 oIx (eVB 1) (eC (.int 4)))))))
def c_most_shown (ds M : List D) : R := endE (b_most_shown (env0 N_most_shown.length ds) M)
def N_is_beside : List Str := [("question" : Str), ("haul" : Str), ("other" : Str)]
def b_is_beside : SF := (bSeq (bIf (e2 oEq (e1 (fldR "Question" "kind") (eVB 0)) (eC (.str "long"))) (bRet (eCall (apC c_lies_within 2 []) (lCons (eV 2) (lCons (eV 1) lNil)))) bNext) (bSeq (bIf (e2 oEq (e1 (fldR "Question" "kind") (eVB 0)) (eC (.str "parts"))) (bRet (eCall (apC c_lies_within 2 []) (lCons (eV 1) (lCons (eV 2) lNil)))) bNext) (bRet (eAnd (e2 oLt (e2 oIx (eVB 2) (eC (.int 0))) (e2 oIx (eVB 1) (eC (.int 1)))) (e2 oLt (e2 oIx (eVB 1) (eC (.int 0))) (e2 oIx (eVB 2) (eC (.int 1))))))))
def c_is_beside (ds M : List D) : R := endE (b_is_beside (env0 N_is_beside.length ds) M)
def N_stretch_cost : List Str := [("question" : Str), ("begin" : Str), ("end" : Str), ("value" : Str)]
def b_stretch_cost : SF := (bSeq (bIf (e2 oLt (eVB 1) (eVB 2)) (bRet (eCall (apC c_cost_of 3 []) (lCons (eV 0) (lCons (eTup (lCons (eV 1) (lCons (eV 2) lNil))) (lCons (eV 3) lNil))))) bNext) (bRet (eIf (eAnd (e1 (oIsi (isT "tuple" ["Bounds", "Ledger"])) (eVB 3)) (e2 oEq (eVB 3) (eTup lNil))) (eC (.int 0)) (eC .non))))
def c_stretch_cost (ds M : List D) : R := endE (b_stretch_cost (env0 N_stretch_cost.length ds) M)
def N_shows_least : List Str := [("question" : Str), ("haul" : Str), ("price" : Str), ("value" : Str), ("ahead" : Str), ("behind" : Str)]
def b_shows_least : SF := (bSeq (bIf (eOr (eNot (e1 (oIsi (isT "tuple" ["Bounds", "Ledger"])) (eVB 3))) (e2 oNe (eCall bLen (lCons (eVB 3) lNil)) (eC (.int 3)))) (bRet (eAnd (e1 (oIsi (isT "tuple" ["Bounds", "Ledger"])) (eVB 3)) (eAnd (e2 oEq (eVB 3) (eTup lNil)) (e2 oLe (eVB 2) (eC (.int 0)))))) bNext) (bSeq (bIf (eOr (eNot (eCall (apC c_is_haul 2 []) (lCons (e2 oIx (eVB 3) (eC (.int 0))) (lCons (e1 (fldR "Question" "line") (eVB 0)) lNil)))) (eNot (eCall (apC c_is_beside 3 []) (lCons (eV 0) (lCons (eV 1) (lCons (e2 oIx (eVB 3) (eC (.int 0))) lNil)))))) (bRet (eC (.bl false))) bNext) (bSeq (bSet 4 (eCall (apC c_stretch_cost 4 []) (lCons (eV 0) (lCons (e2 oIx (e2 oIx (eVB 3) (eC (.int 0))) (eC (.int 0))) (lCons (e2 oIx (eVB 1) (eC (.int 0))) (lCons (e2 oIx (eVB 3) (eC (.int 1))) lNil)))))) (bSeq (bSet 5 (eCall (apC c_stretch_cost 4 []) (lCons (eV 0) (lCons (e2 oIx (eVB 1) (eC (.int 1))) (lCons (e2 oIx (e2 oIx (eVB 3) (eC (.int 0))) (eC (.int 1))) (lCons (e2 oIx (eVB 3) (eC (.int 2))) lNil)))))) (bRet (eAnd (e2 oIsnt (eVB 4) (eC .non)) (eAnd (e2 oIsnt (eVB 5) (eC .non)) (e2 oGe (e2 oSub (e2 oSub (e2 oIx (e1 (fldR "Question" "least") (eVB 0)) (e2 oIx (eVB 3) (eC (.int 0)))) (eVB 4)) (eVB 5)) (eVB 2)))))))))
def c_shows_least (ds M : List D) : R := endE (b_shows_least (env0 N_shows_least.length ds) M)
def N_least_shown : List Str := [("question" : Str), ("claim" : Str), ("value" : Str)]
def b_least_shown : SF := (bRet (eCall (apC c_shows_least 4 []) (lCons (eV 0) (lCons (e2 oIx (eVB 1) (eC (.int 3))) (lCons (e2 oIx (eVB 1) (eC (.int 4))) (lCons (eV 2) lNil))))))
def c_least_shown (ds M : List D) : R := endE (b_least_shown (env0 N_least_shown.length ds) M)
def N_can_shown : List Str := [("question" : Str), ("claim" : Str), ("value" : Str)]
def b_can_shown : SF := (bRet (eAnd (eCall (apC c_is_fitting 2 []) (lCons (eV 0) (lCons (eV 2) lNil))) (e2 oEq (e2 oIx (eCall (apC c_costs_in 1 []) (lCons (eV 2) lNil)) (e2 oIx (eVB 1) (eC (.int 3)))) (e2 oIx (eVB 1) (eC (.int 4))))))
def c_can_shown (ds M : List D) : R := endE (b_can_shown (env0 N_can_shown.length ds) M)
def N_lowest_shown : List Str := [("question" : Str), ("claim" : Str), ("value" : Str), ("hauls" : Str), ("costs" : Str), ("papers" : Str), ("haul" : Str), ("paper" : Str)]
def b_lowest_shown_1 : EF := (eCall (apC c_shows_least 4 []) (lCons (eV 0) (lCons (eV 6) (lCons (e2 oIx (eVB 4) (eVB 6)) (lCons (eV 7) lNil)))))
def b_lowest_shown : SF := (bSeq (bIf (eOr (eNot (e1 (oIsi (isT "tuple" ["Bounds", "Ledger"])) (eVB 2))) (eOr (e2 oNe (eCall bLen (lCons (eVB 2) lNil)) (eC (.int 2))) (eNot (eCall (apC c_is_fitting 2 []) (lCons (eV 0) (lCons (e2 oIx (eVB 2) (eC (.int 0))) lNil)))))) (bRet (eC (.bl false))) bNext) (bSeq (bSetT [3, 4, 5] (eTup (lCons (eCall (apC c_hauls_of 1 []) (lCons (e1 (fldR "Question" "line") (eVB 0)) lNil)) (lCons (eCall (apC c_costs_in 1 []) (lCons (e2 oIx (eVB 2) (eC (.int 0))) lNil)) (lCons (e2 oIx (eVB 2) (eC (.int 1))) lNil))))) (bSeq (bIf (eOr (eNot (e1 (oIsi (isT "tuple" ["Bounds", "Ledger"])) (eVB 5))) (e2 oNe (eCall bLen (lCons (eVB 5) lNil)) (eCall bLen (lCons (eVB 3) lNil)))) (bRet (eC (.bl false))) bNext) (bRet (eCall bAll (lCons (eComp (iZip2 (eV 3) (eV 5)) (gT [6, 7]) (eC (.bl true)) b_lowest_shown_1 [6, 7]) lNil))))))
def c_lowest_shown (ds M : List D) : R := endE (b_lowest_shown (env0 N_lowest_shown.length ds) M)
def N_no_lowest_shown : List Str := [("question" : Str), ("claim" : Str), ("value" : Str), ("begin" : Str), ("middle" : Str), ("end" : Str), ("both" : Str), ("stop" : Str)]
def b_no_lowest_shown_1 : EF := (eCall (apC c_is_integer 1 []) (lCons (eV 7) lNil))
def b_no_lowest_shown : SF := (bSeq (bIf (eOr (eNot (e1 (oIsi (isT "tuple" ["Bounds", "Ledger"])) (eVB 2))) (eOr (e2 oNe (eCall bLen (lCons (eVB 2) lNil)) (eC (.int 6))) (eNot (eCall bAll (lCons (eComp (iSeq (eSl oSlE (eVB 2) (eC .non) (eInt (eC (.int 3))))) (gN 7) (eC (.bl true)) b_no_lowest_shown_1 [7]) lNil))))) (bRet (eC (.bl false))) bNext) (bSeq (bSetT [3, 4, 5] (eSl oSlE (eVB 2) (eC .non) (eInt (eC (.int 3))))) (bSeq (bIf (eNot (eChain4 oLe oLt oLt oLt (eC (.int 0)) (eVB 3) (eVB 4) (eVB 5) (e1 (fldR "Question" "line") (eVB 0)))) (bRet (eC (.bl false))) bNext) (bSeq (bIf (eOr (eNot (eCall (apC c_is_fitting 2 []) (lCons (eV 0) (lCons (e2 oIx (eVB 2) (eC (.int 3))) lNil)))) (eNot (eCall (apC c_is_fitting 2 []) (lCons (eV 0) (lCons (e2 oIx (eVB 2) (eC (.int 4))) lNil))))) (bRet (eC (.bl false))) bNext) (bSeq (bSet 6 (e2 oAdd (e2 oIx (eCall (apC c_costs_in 1 []) (lCons (e2 oIx (eVB 2) (eC (.int 3))) lNil)) (eTup (lCons (eV 3) (lCons (eV 4) lNil)))) (e2 oIx (eCall (apC c_costs_in 1 []) (lCons (e2 oIx (eVB 2) (eC (.int 4))) lNil)) (eTup (lCons (eV 4) (lCons (eV 5) lNil)))))) (bRet (eCall (apC c_shows_least 4 []) (lCons (eV 0) (lCons (eTup (lCons (eV 3) (lCons (eV 5) lNil))) (lCons (e2 oAdd (eVB 6) (eC (.int 1))) (lCons (e2 oIx (eVB 2) (eC (.int 5))) lNil)))))))))))
def c_no_lowest_shown (ds M : List D) : R := endE (b_no_lowest_shown (env0 N_no_lowest_shown.length ds) M)
def N_accepts : List Str := [("claim" : Str), ("certificate" : Str), ("question" : Str), ("shown" : Str)]
def b_accepts : SF := (bSeq (bSet 2 (eCall (apC c_question_in 1 []) (lCons (eV 0) lNil))) (bSeq (bIf (e2 oIs (eVB 2) (eC .non)) (bRet (eC (.bl false))) bNext) (bSeq (bSet 3 (eTabIx [("fits", .glo "fits_shown"), ("none", .glo "none_shown"), ("most", .glo "most_shown"), ("least", .glo "least_shown"), ("can", .glo "can_shown"), ("lowest", .glo "lowest_shown"), ("no lowest", .glo "no_lowest_shown")] (e2 oIx (eVB 0) (eC (.int 0))))) (bRet (eLoc 3 3 [("fits_shown", c_fits_shown), ("none_shown", c_none_shown), ("most_shown", c_most_shown), ("least_shown", c_least_shown), ("can_shown", c_can_shown), ("lowest_shown", c_lowest_shown), ("no_lowest_shown", c_no_lowest_shown)] (lCons (eV 2) (lCons (eV 0) (lCons (eV 1) lNil))))))))
def c_accepts (ds M : List D) : R := endE (b_accepts (env0 N_accepts.length ds) M)
def N__law_draw : List Str := [("_law_well_here" : Str), ("_law_many" : Str), ("_law_digit" : Str), ("_law_seed" : Str)]
def b__law_draw : SF := (bSeq (bSub 0 (eC (.int 2)) (e2 oAdd (e2 oIx (eVB 0) (eC (.int 2))) (eC (.int 1)))) (bSeq (bIf (e2 oGt (e2 oIx (eVB 0) (eC (.int 0))) (eC (.int 0))) (bSeq (bSet 2 (e2 oMod (eCall bInt (lCons (e2 oIx (eVB 0) (eC (.int 0))) lNil)) (eVB 1))) (bSeq (bSub 0 (eC (.int 0)) (e2 oDiv (eCall bInt (lCons (e2 oIx (eVB 0) (eC (.int 0))) lNil)) (eVB 1))) (bRet (eV 2)))) bNext) (bSeq (bSet 3 (eCall bInt (lCons (e2 oIx (eVB 0) (eC (.int 1))) lNil))) (bSeq (bSub 0 (eC (.int 1)) (e2 oMod (eCall bInt (lCons (e2 oAdd (e2 oAdd (e2 oMul (eVB 3) (eC (.int 39373))) (e2 oMul (e2 oIx (eVB 0) (eC (.int 2))) (eC (.int 69621)))) (eC (.int 11))) lNil)) (eC (.int 2147483563)))) (bRet (e2 oMod (eCall bInt (lCons (e2 oDiv (e2 oIx (eVB 0) (eC (.int 1))) (eC (.int 1024))) lNil)) (eVB 1)))))))
def c__law_draw (ds M : List D) : R := endE (b__law_draw (env0 N__law_draw.length ds) M)
def N__law_pick : List Str := [("_law_well_here" : Str), ("_law_menu_here" : Str), ("_law_at" : Str)]
def b__law_pick : SF := (bSeq (bSet 2 (eCall (apC c__law_draw 2 []) (lCons (eV 0) (lCons (eCall bLen (lCons (eVB 1) lNil)) lNil)))) (bRet (e2 oIx (eVB 1) (eVB 2))))
def c__law_pick (ds M : List D) : R := endE (b__law_pick (env0 N__law_pick.length ds) M)
def N_check_rules : List Str := [("rules" : Str)]
def b_check_rules : SF := (bIf (eNot (eCall (apC c_is_rules 1 []) (lCons (eV 0) lNil))) bStuck bNext)
def c_check_rules (ds M : List D) : R := endE (b_check_rules (env0 N_check_rules.length ds) M)
def N_Ledger___init__ : List Str := [("self" : Str), ("stops" : Str), ("rules" : Str)]
def b_Ledger___init__ : SF := (bSeq (bExpr (eCall (apC c_check_stops 1 []) (lCons (eV 1) lNil))) (bSeq (bExpr (eCall (apC c_check_rules 1 []) (lCons (eV 2) lNil))) (bSeq (bFld 0 "Ledger" "word" (eV 2)) (bFld 0 "Ledger" "state" (eTup (lCons (eCall (apC c_Bounds___init__ 2 [.tup []]) (lCons (eV 1) lNil)) (lCons (eTup lNil) lNil)))))))
def c_Ledger___init__ (ds M : List D) : R := endI (b_Ledger___init__ (env0I N_Ledger___init__.length "Ledger" ds) M)
def N__law_text_like : List Str := [("_law_well_here" : Str), ("_law_some" : Str)]
def b__law_text_like : SF := (bSeq (bOwn 1 (eLst (lCons (eC (.str "")) (lCons (eC (.str "\n")) (lCons (eC (.str "stops")) (lCons (eC (.str "stops ")) (lCons (eC (.str "stops 1")) (lCons (eC (.str "stops 11")) (lCons (eC (.str "stops 03")) (lCons (eC (.str "stops -3")) (lCons (eC (.str "stops +3")) (lCons (eC (.str "Stops 3")) lNil)))))))))))) (bSeq (bApp 1 (eC (.str " stops 3"))) (bSeq (bOwn 1 (e2 oAddL (eVB 1) (eLst (lCons (eC (.str "stops 3 ")) (lCons (eC (.str "stops  3")) (lCons (eC (.str "stops 3\n")) (lCons (eC (.str "stops 3\n\n0 1 0 5")) (lCons (eC (.str "stops 3\n0 1 0 5\n")) (lCons (eC (.str "stops 3\n0 1 0 5 ")) lNil))))))))) (bSeq (bOwn 1 (e2 oAddL (eVB 1) (eLst (lCons (eC (.str "stops 3\n0 1 6 5")) (lCons (eC (.str "stops 3\n0 1 - 5")) (lCons (eC (.str "stops 3\n0 1 0 +")) (lCons (eC (.str "stops 3\n0 1 00 5")) (lCons (eC (.str "stops 3\n0 1 0 --")) lNil)))))))) (bSeq (bOwn 1 (e2 oAddL (eVB 1) (eLst (lCons (eC (.str "stops 3\n0 2 0 5\n0 1 0 5")) (lCons (eC (.str "stops 3\n0 1 0 5\n0 1 0 5")) (lCons (eC (.str "stops 3\n0 3 0 5")) (lCons (eC (.str "stops 3\n1 1 0 5")) lNil))))))) (bSeq (bOwn 1 (e2 oAddL (eVB 1) (eLst (lCons (eC (.str "stops 3\n0 1 0 1000000000001")) (lCons (eC (.str "stops 3\n0 1 0")) (lCons (eC (.str "stops 3\n0 1 0 5 5")) (lCons (eC (.str "stops 3\n0  1 0 5")) lNil))))))) (bSeq (bOwn 1 (e2 oAddL (eVB 1) (eLst (lCons (eC .non) (lCons (eC (.int 3)) (lCons (eC (.bl true)) (lCons (eTup (lCons (eC (.str "stops 3")) lNil)) (lCons (eLst (lCons (eC (.str "stops 3")) lNil)) (lCons (eCall (apC c_Bounds___init__ 2 [.tup []]) (lCons (eC (.int 3)) lNil)) (lCons (eCall (apC c_Ledger___init__ 2 [.str "both"]) (lCons (eC (.int 3)) lNil)) (lCons (eNew (.dK [])) (lCons (eTup lNil) (lCons (eC (.str "0 1 0 5")) lNil))))))))))))) (bSeq (bApp 1 (eC (.str "stops 3\n0 1 0 None"))) (bRet (e2 oIx (eVB 1) (eCall (apC c__law_draw 2 []) (lCons (eV 0) (lCons (eCall bLen (lCons (eVB 1) lNil)) lNil)))))))))))))
def c__law_text_like (ds M : List D) : R := endE (b__law_text_like (env0 N__law_text_like.length ds) M)
def N__law_wrong : List Str := [("_law_well_here" : Str), ("_law_mine" : Str), ("_law_paper" : Str), ("_law_way" : Str), ("_law_words" : Str), ("_law_rides" : Str), ("_law_some" : Str)]
def b__law_wrong : SF := (bSeq (bSet 3 (eCall (apC c__law_draw 2 []) (lCons (eV 0) (lCons (eC (.int 9)) lNil)))) (bSeq (bIf (e2 oEq (eVB 3) (eC (.int 0))) (bSeq (bSet 4 (eLst (lCons (eC .non) (lCons (eC (.int 5)) (lCons (eC (.str "")) (lCons (eC (.str "Fits")) (lCons (eTup (lCons (eC (.str "fits")) lNil)) (lCons (eC (.bl true)) (lCons (eLst lNil) (lCons (eNew (.dK [])) (lCons (eC (.str "may")) (lCons (eC (.str "no  lowest")) (lCons (eC (.str "fits ")) (lCons (eCall (apC c_Bounds___init__ 2 [.tup []]) (lCons (eC (.int 3)) lNil)) lNil)))))))))))))) (bRet (eTup (lCons (e2 oAdd (eTup (lCons (eCall (apC c__law_pick 2 []) (lCons (eV 0) (lCons (eV 4) lNil))) lNil)) (eSl oSlE (eVB 1) (eInt (eC (.int 1))) (eC .non))) (lCons (eV 2) lNil))))) bNext) (bSeq (bIf (e2 oEq (eVB 3) (eC (.int 1))) (bRet (eTup (lCons (e2 oAdd (e2 oAdd (eSl oSlE (eVB 1) (eC .non) (eInt (eC (.int 1)))) (eTup (lCons (eCall (apC c__law_text_like 1 []) (lCons (eV 0) lNil)) lNil))) (eSl oSlE (eVB 1) (eInt (eC (.int 2))) (eC .non))) (lCons (eV 2) lNil)))) bNext) (bSeq (bIf (e2 oEq (eVB 3) (eC (.int 2))) (bSeq (bSet 4 (eLst (lCons (eC .non) (lCons (eC (.int 0)) (lCons (eC (.str "")) (lCons (eC (.str "Both")) (lCons (eTup (lCons (eC (.str "both")) lNil)) (lCons (eC (.bl true)) (lCons (eLst (lCons (eC (.str "both")) lNil)) (lCons (eNew (.dK [])) (lCons (eC (.str "rules")) (lCons (eC (.str "both ")) (lCons (eC (.str "longparts")) (lCons (eC (.str "any")) lNil)))))))))))))) (bRet (eTup (lCons (e2 oAdd (e2 oAdd (eSl oSlE (eVB 1) (eC .non) (eInt (eC (.int 2)))) (eTup (lCons (eCall (apC c__law_pick 2 []) (lCons (eV 0) (lCons (eV 4) lNil))) lNil))) (eSl oSlE (eVB 1) (eInt (eC (.int 3))) (eC .non))) (lCons (eV 2) lNil))))) bNext) (bSeq (bIf (eAnd (e2 oEq (eVB 3) (eC (.int 3))) (e2 oEq (eCall bLen (lCons (eVB 1) lNil)) (eC (.int 5)))) (bSeq (bSet 5 (eLst (lCons (eTup (lCons (eC (.int 0)) (lCons (eC (.int 3)) lNil))) (lCons (eTup (lCons (eC (.int 1)) (lCons (eC (.int 1)) lNil))) (lCons (eTup (lCons (eC (.int 1)) (lCons (eC (.int 0)) lNil))) (lCons (eTup (lCons (e1 oNeg (eC (.int 1))) (lCons (eC (.int 1)) lNil))) (lCons (eTup (lCons (eC (.int 0)) lNil)) (lCons (eTup (lCons (eC (.int 0)) (lCons (eC (.int 1)) (lCons (eC (.int 2)) lNil)))) (lCons (eLst (lCons (eC (.int 0)) (lCons (eC (.int 1)) lNil))) (lCons (eTup (lCons (eC (.int 0)) (lCons (eC (.bl true)) lNil))) (lCons (eTup (lCons (eC (.bl false)) (lCons (eC (.int 1)) lNil))) lNil))))))))))) (bSeq (bSet 5 (e2 oAdd (eVB 5) (eLst (lCons (eC .non) (lCons (eC (.str "01")) (lCons (eC (.int 0)) (lCons (eTup (lCons (eC (.int 0)) (lCons (eC (.str "2")) lNil))) (lCons (eNew (.dK [])) lNil)))))))) (bRet (eTup (lCons (e2 oAdd (eSl oSlE (eVB 1) (eC .non) (eInt (eC (.int 3)))) (eTup (lCons (eCall (apC c__law_pick 2 []) (lCons (eV 0) (lCons (eV 5) lNil))) (lCons (e2 oIx (eVB 1) (eC (.int 4))) lNil)))) (lCons (eV 2) lNil)))))) bNext) (bSeq (bIf (eAnd (e2 oEq (eVB 3) (eC (.int 4))) (e2 oEq (eCall bLen (lCons (eVB 1) lNil)) (eC (.int 5)))) (bRet (eTup (lCons (e2 oAdd (eSl oSlE (eVB 1) (eC .non) (eInt (eC (.int 4)))) (eTup (lCons (eCall (apC c__law_pick 2 []) (lCons (eV 0) (lCons (eLst (lCons (eC .non) (lCons (eC (.bl true)) (lCons (eC (.bl false)) (lCons (eC (.str "2")) (lCons (eTup (lCons (eC (.int 2)) lNil)) (lCons (eLst lNil) (lCons (eNew (.dK [])) (lCons (eCall (apC c_Bounds___init__ 2 [.tup []]) (lCons (eC (.int 3)) lNil)) lNil))))))))) lNil))) lNil))) (lCons (eV 2) lNil)))) bNext) (bSeq (bIf (e2 oLt (eVB 3) (eC (.int 6))) (bSeq (bSet 6 (eLst (lCons (e2 oAdd (eVB 1) (eTup (lCons (eC .non) lNil))) (lCons (eSl oSlE (eVB 1) (eC .non) (eInt (e1 oNeg (eC (.int 1))))) (lCons (eCall bLstOf (lCons (eVB 1) lNil)) (lCons (eSl oSlE (eVB 1) (eC .non) (eInt (eC (.int 2)))) (lCons (eSl oSlE (eVB 1) (eC .non) (eInt (eC (.int 1)))) (lCons (eTup lNil) (lCons (e2 oAdd (eVB 1) (eTup (lCons (e2 oIx (eVB 1) (e1 oNeg (eC (.int 1)))) lNil))) lNil))))))))) (bRet (eTup (lCons (eCall (apC c__law_pick 2 []) (lCons (eV 0) (lCons (eV 6) lNil))) (lCons (eV 2) lNil))))) bNext) (bSeq (bIf (e2 oEq (eVB 3) (eC (.int 6))) (bSeq (bSet 6 (eLst (lCons (eC .non) (lCons (eC (.bl true)) (lCons (eC (.int 0)) (lCons (eC (.str "fits")) (lCons (eC (.str "both")) (lCons (eTup lNil) (lCons (eLst lNil) (lCons (eNew (.dK [])) (lCons (eTup (lCons (eTup lNil) lNil)) (lCons (eCall (apC c_Bounds___init__ 2 [.tup []]) (lCons (eC (.int 3)) lNil)) (lCons (eCall (apC c_Ledger___init__ 2 [.str "both"]) (lCons (eC (.int 3)) lNil)) (lCons (eTup (lCons (eV 1) lNil)) (lCons (eV 2) lNil))))))))))))))) (bRet (eTup (lCons (eCall (apC c__law_pick 2 []) (lCons (eV 0) (lCons (eV 6) lNil))) (lCons (eV 2) lNil))))) bNext) (bSeq (bIf (e2 oEq (eVB 3) (eC (.int 7))) (bSeq (bSet 6 (eLst (lCons (eC .non) (lCons (eC (.bl true)) (lCons (eC (.int 0)) (lCons (e1 oNeg (eC (.int 1))) (lCons (eC (.str "")) (lCons (eC (.str "()")) (lCons (eLst lNil) (lCons (eNew (.dK [])) (lCons (eTup (lCons (eTup lNil) lNil)) (lCons (e2 oMulT (eTup (lCons (eC .non) lNil)) (eC (.int 6))) (lCons (eCall (apC c_Bounds___init__ 2 [.tup []]) (lCons (eC (.int 3)) lNil)) (lCons (eCall (apC c_Ledger___init__ 2 [.str "both"]) (lCons (eC (.int 3)) lNil)) (lCons (eV 1) lNil))))))))))))))) (bRet (eTup (lCons (eV 1) (lCons (eCall (apC c__law_pick 2 []) (lCons (eV 0) (lCons (eV 6) lNil))) lNil))))) bNext) (bSeq (bSet 6 (eLst (lCons (eCall bLstOf (lCons (eVB 2) lNil)) (lCons (eTup (lCons (eV 2) lNil)) (lCons (e2 oAdd (eVB 2) (eTup (lCons (eC (.int 0)) lNil))) (lCons (e2 oAdd (eVB 2) (eVB 2)) (lCons (eLst (lCons (eV 2) lNil)) (lCons (e2 oAdd (eSl oSlE (eVB 2) (eC .non) (eInt (e1 oNeg (eC (.int 1))))) (eTup (lCons (eC .non) lNil))) lNil)))))))) (bRet (eTup (lCons (eV 1) (lCons (eCall (apC c__law_pick 2 []) (lCons (eV 0) (lCons (eV 6) lNil))) lNil))))))))))))))
def c__law_wrong (ds M : List D) : R := endE (b__law_wrong (env0 N__law_wrong.length ds) M)
def N__law_right : List Str := [("_law_well_here" : Str), ("_law_some" : Str), ("_law_turn" : Str), ("_law_mine" : Str), ("_law_paper" : Str), ("_law_wrong_here" : Str), ("_law_odd" : Str)]
def b__law_right_1 : SF := (bSeq (bSetT [3, 4] (eCall (apC c__law_pick 2 []) (lCons (eV 0) (lCons (eV 1) lNil)))) (bSeq (bSetT [5, 6] (eCall (apC c__law_wrong 3 []) (lCons (eV 0) (lCons (eV 3) (lCons (eV 4) lNil))))) (bSeq (bIf (eOr (e2 oIsntB (eCall (apC c_accepts 2 []) (lCons (eV 5) (lCons (eV 6) lNil))) (eC (.bl false))) (e2 oIsntB (eCallQ c_accepts 2 0 2 [1, 0] [] lNil (lCons (eV 6) (lCons (eV 5) lNil))) (eC (.bl false)))) (bRet (eC (.bl false))) bNext) (bIf (e2 oIsntB (eCall (apC c_accepts 2 []) (lCons (eV 3) (lCons (eV 4) lNil))) (eC (.bl true))) (bRet (eC (.bl false))) bNext))))
def b__law_right : SF := (bSeq (bSet 1 (eCall (apC c__law_menu 0 []) lNil)) (bSeq (bFor (iRng1 (eC (.int 12))) (gN 2) b__law_right_1) (bRet (eC (.bl true)))))
def c__law_right (ds M : List D) : R := endE (b__law_right (env0 N__law_right.length ds) M)
def N__law_well : List Str := [("_law_script" : Str), ("_law_k" : Str), ("_law_seed" : Str), ("_law_cell" : Str), ("_law_own" : Str), ("_law_digits" : Str)]
def b__law_well_1 : SF := (bSet 2 (e2 oMod (eCall bInt (lCons (e2 oAdd (e2 oMul (eVB 2) (eC (.int 733))) (eVB 3)) lNil)) (eC (.int 1000000021))))
def b__law_well : SF := (bSeq (bSet 2 (e2 oAdd (e2 oMul (e2 oMul (eC (.int 7919)) (e2 oAdd (eVB 1) (eC (.int 5)))) (e2 oAdd (eVB 1) (eC (.int 2)))) (e2 oMul (eC (.int 31)) (eCall bLen (lCons (eVB 0) lNil))))) (bSeq (bFor (iSeq (eSl oSlE (eVB 0) (eC .non) (eInt (eC (.int 5))))) (gN 3) b__law_well_1) (bSeq (bSet 4 (eIf (e2 oLt (eVB 1) (eCall bLen (lCons (eVB 0) lNil))) (e2 oIx (eVB 0) (eVB 1)) (eC (.int 0)))) (bSeq (bSet 5 (eIf (eOr (e2 oLt (eVB 4) (eC (.int 0))) (e2 oGe (eVB 4) (e2 oPow (eC (.int 10)) (eC (.int 18))))) (eCall bAbs (lCons (eVB 4) lNil)) (eC (.int 0)))) (bRet (eCell (eLst (lCons (eV 5) (lCons (e2 oMod (eCall bInt (lCons (e2 oAdd (e2 oAdd (e2 oMul (eVB 2) (eC (.int 8111))) (e2 oMul (eVB 4) (eC (.int 64433)))) (e2 oMul (eC (.int 92821)) (e2 oAdd (eVB 1) (eC (.int 1))))) lNil)) (eC (.int 2147483579))) (lCons (eC (.int 0)) lNil))))))))))
def c__law_well (ds M : List D) : R := endE (b__law_well (env0 N__law_well.length ds) M)
def N_law : List Str := [("_law_script" : Str), ("_law_mine" : Str), ("_law_paper" : Str), ("_law_k" : Str)]
def b_law_1 : SF := (bIf (eOr (e2 oIsntB (eCall (apC c_accepts 2 []) (lCons (eV 1) (lCons (eV 2) lNil))) (eC (.bl true))) (e2 oIsntB (eCallQ c_accepts 2 0 2 [1, 0] [] lNil (lCons (eV 2) (lCons (eV 1) lNil))) (eC (.bl true)))) (bRet (eC (.bl false))) bNext)
def b_law_2 : EF := (eCall (apC c__law_right 1 []) (lCons (eCall (apC c__law_well 2 []) (lCons (eV 0) (lCons (eV 3) lNil))) lNil))
def b_law : SF := (bSeq (bFor (iSeq (eCall (apC c__law_menu 0 []) lNil)) (gT [1, 2]) b_law_1) (bRet (eCall bAll (lCons (eComp (iRng1 (eCall bMax (lCons (eC (.int 2)) (lCons (eCall bMin (lCons (eCall bLen (lCons (eVB 0) lNil)) (lCons (eC (.int 4)) lNil))) lNil)))) (gN 3) (eC (.bl true)) b_law_2 [3]) lNil))))
def c_law (ds M : List D) : R := endE (b_law (env0 N_law.length ds) M)
end HP
set_option maxRecDepth 100000
set_option maxHeartbeats 1000000
namespace HP
open MP PySem L2
def jr (a b c : Int) : D := .lst [.int a, .int b, .int c]
def JarAt (M : List D) (n : Nat) : Prop := ∃ a b c : Int, 0 ≤ a ∧ 0 ≤ b ∧ M[n]? = some (jr a b c)
@[simp] theorem atI3_0 {a b c : D} : atI [a, b, c] 0 = some a := rfl
@[simp] theorem atI3_1 {a b c : D} : atI [a, b, c] 1 = some b := rfl
@[simp] theorem atI3_2 {a b c : D} : atI [a, b, c] 2 = some c := rfl
theorem st_0 {a b c v : Int} : stSub (.int 0) (.int v) (jr a b c) = some (jr v b c) := rfl
theorem st_1 {a b c v : Int} : stSub (.int 1) (.int v) (jr a b c) = some (jr a v c) := rfl
theorem st_2 {a b c v : Int} : stSub (.int 2) (.int v) (jr a b c) = some (jr a b v) := rfl
@[simp] theorem has_c {d : D} {r : EnvM} : has 0 (.shr d :: r) = true := rfl
theorem store_0 {n : Nat} {r : EnvM} {u d d'} {M : List D} (hm : M[n]? = some d) (hu : u d = some d') : store 0 u (.shr (.cel n) :: r) M = .next (.shr (.cel n) :: r) (M.set n d') := store_cel rfl hm hu
end HP
set_option maxRecDepth 100000
set_option maxHeartbeats 1000000
namespace HP
open MP PySem L2
theorem dip_ok {M : List D} {n : Nat} {m : Int} (hj : JarAt M n) (hm : 0 < m) (hm2 : m < 2 ^ 200) :
    ∃ v M', c__law_draw [.cel n, .int m] M = .ok (.int v) M' ∧ 0 ≤ v ∧ v < m ∧ JarAt M' n := by
  obtain ⟨a, b, c, ha, hb, hM⟩ := hj
  have hlt : n < M.length := (List.getElem?_eq_some_iff.mp hM).1
  have e0 : env0 N__law_draw.length [.cel n, .int m] = [.shr (.cel n), .shr (.int m), .no, .no] := rfl
  have c1 : ∀ i, CMulB i 39373 := fun i => cmul_r (by decide)
  have c2 : ∀ i, CMulB i 69621 := fun i => cmul_r (by decide)
  have c3 : ∀ i, CDivW i 1024 := fun i => cdiv_s (by decide) (by decide)
  have c4 : ∀ i, CDivW i m := fun i => cdiv_s hm hm2
  have i0 := oIx_celL (i := 2) hM
  have hM1 : (M.set n (jr a b (c + 1)))[n]? = some (jr a b (c + 1)) := by simp [hlt]
  have s1 := fun (r : EnvM) => store_0 (r := r) hM (st_2 (v := c + 1))
  unfold c__law_draw
  rw [e0]
  by_cases h0 : 0 < a
  · refine ⟨a % m, M.set n (jr (a / m) b (c + 1)), ?_, Int.emod_nonneg _ (by omega), Int.emod_lt_of_pos _ hm, ⟨a / m, b, c + 1, Int.ediv_nonneg ha (by omega), hb, by simp [hlt]⟩⟩
    have s2 := fun (r : EnvM) => store_0 (r := r) hM1 (st_0 (v := a / m))
    simp [b__law_draw, i0, s1, s2, oIx_celL hM1, h0, hm, c4]
  · refine ⟨(b * 39373 + (c + 1) * 69621 + 11) % 2147483563 / 1024 % m, M.set n (jr a ((b * 39373 + (c + 1) * 69621 + 11) % 2147483563) (c + 1)), ?_, Int.emod_nonneg _ (by omega), Int.emod_lt_of_pos _ hm, ⟨a, (b * 39373 + (c + 1) * 69621 + 11) % 2147483563, c + 1, ha, Int.emod_nonneg _ (by decide), by simp [hlt]⟩⟩
    have s2 := fun (r : EnvM) => store_0 (r := r) hM1 (st_1 (v := (b * 39373 + (c + 1) * 69621 + 11) % 2147483563))
    have hM2 : (M.set n (jr a ((b * 39373 + (c + 1) * 69621 + 11) % 2147483563) (c + 1)))[n]? = some (jr a ((b * 39373 + (c + 1) * 69621 + 11) % 2147483563) (c + 1)) := by simp [hlt]
    simp [b__law_draw, i0, s1, s2, oIx_celL hM1, oIx_celL hM2, h0, hm, c1, c2, c3, c4]
theorem jar_ok {ns : List Int} {k : Nat} (hk : k ≤ 4) (hl : ns.length ≤ 63) (M : List D) : ∃ d s : Int, 0 ≤ d ∧ 0 ≤ s ∧ c__law_well [.scr ns, .int k] M = .ok (.cel M.length) (M ++ [jr d s 0]) := by
  have e0 : env0 N__law_well.length [.scr ns, .int k] = [.shr (.scr ns), .shr (.int k), .no, .no, .no, .no] := rfl
  unfold c__law_well
  rw [e0]
  have c1 : CMulB 7919 ((k : Int) + 5) := cmul_l (by decide)
  have c2 : ∀ i, CMulB i ((k : Int) + 2) := fun i => cmul_r (by omega)
  have c3 : ∀ i, CMulB 31 i := fun i => cmul_l (by decide)
  have c4 : ∀ i, CMulB i 733 := fun i => cmul_r (by decide)
  have c5 : ∀ i, CMulB i 8111 := fun i => cmul_r (by decide)
  have c6 : ∀ i, CMulB i 64433 := fun i => cmul_r (by decide)
  have c7 : ∀ i, CMulB 92821 i := fun i => cmul_l (by decide)
  have p1 : CPow 10 18 := by decide
  obtain ⟨m0, hm0⟩ : ∃ m0 : Int, m0 = 7919 * ((k : Int) + 5) * ((k : Int) + 2) + 31 * (ns.length : Int) := ⟨_, rfl⟩
  obtain ⟨env2, M2, e1, m, x3, f3, rfl, rfl⟩ := forL_inv (gd := gN 3) (b := b__law_well_1) (ds := cutD (ns.map D.int) none (some 5))
    (fun i env M' => ∃ m x3, MP.B.free x3 ∧ env = [.shr (.scr ns), .shr (.int k), .shr (.int m), x3, .no, .no] ∧ M' = M)
    (by
      rintro i d env M' hd ⟨m, x3, f3, rfl, rfl⟩
      have hm := List.mem_of_getElem? hd
      unfold cutD at hm
      obtain ⟨v, _, rfl⟩ := List.mem_map.mp (List.mem_of_mem_drop (List.mem_of_mem_take hm))
      exact ⟨[.shr (.scr ns), .shr (.int k), .shr (.int m), .shr (.int v), .no, .no], by simp [f3], [.shr (.scr ns), .shr (.int k), .shr (.int ((m * 733 + v) % 1000000021)), .shr (.int v), .no, .no], M', by simp [b__law_well_1, c4], _, _, free_shr, rfl, rfl⟩)
    (env := [.shr (.scr ns), .shr (.int k), .shr (.int m0), .no, .no, .no]) (M := M) ⟨m0, .no, trivial, rfl, rfl⟩
  obtain ⟨own, ho⟩ : ∃ own : Int, own = if h : k < ns.length then ns[k] else 0 := ⟨_, rfl⟩
  have hs : (0 : Int) < 2147483579 := by decide
  have eOwn : (eIf (MP.e2 oLt (eVB 1) (eCall bLen (lCons (eVB 0) lNil))) (MP.e2 oIx (eVB 0) (eVB 1)) (eC (.int 0))) [.shr (.scr ns), .shr (.int k), .shr (.int m), x3, .no, .no] M2 = .ok (.int own) M2 := by
    by_cases h : k < ns.length
    · have hh : (k : Int) < (ns.length : Int) := by omega
      have ha : atI ns (k : Int) = some ns[k] := atI_nat (by simp [h])
      rw [ho, dif_pos h]
      simp [h, oIx_scr ha]
    · rw [ho, dif_neg h]
      simp [h]
  have hab : (0 : Int) ≤ (if own < 0 then -own else own) := by split <;> omega
  have sl : ∀ M, oSlE (.scr ns) none (some 5) M = .ok (.lst (cutD (ns.map D.int) none (some 5))) M := fun M => rfl
  have es : ∀ {env : EnvM} {M : List D}, env[0]? = some (.shr (.scr ns)) → (eSl oSlE (eVB 0) (eC .non) (eInt (eC (.int 5)))) env M = .ok (.lst (cutD (ns.map D.int) none (some 5))) M := fun {env M} h => by
    show ((eVB 0) env M).bind _ = _
    rw [eVB_eq, h]; rfl
  have es2 := es (env := [.shr (.scr ns), .shr (.int k), .shr (.int m0), .no, .no, .no]) (M := M2) rfl
  by_cases hd : own < 0 ∨ 1000000000000000000 ≤ own
  · refine ⟨(if own < 0 then -own else own), (m * 8111 + own * 64433 + 92821 * ((k : Int) + 1)) % 2147483579, hab, Int.emod_nonneg _ (by decide), ?_⟩
    simp [b__law_well, -eIf_eq, c1, c2, c3, c5, c6, c7, p1, ← hm0, es2, e1, f3]
    rw [eOwn]
    rcases hd with hd | hd
    · simp [hd, c5, c6, c7, jr]
    · have hn : ¬ own < 0 := by omega
      simp [hd, hn, p1, c5, c6, c7, jr]
  · refine ⟨0, (m * 8111 + own * 64433 + 92821 * ((k : Int) + 1)) % 2147483579, Int.le_refl _, Int.emod_nonneg _ (by decide), ?_⟩
    have h1 : ¬ own < 0 := fun h => hd (.inl h)
    have h2 : ¬ 1000000000000000000 ≤ own := fun h => hd (.inr h)
    simp [b__law_well, -eIf_eq, c1, c2, c3, c5, c6, c7, p1, ← hm0, es2, e1, f3]
    rw [eOwn]
    simp [h1, h2, p1, c5, c6, c7, jr]
theorem pick_ok {M : List D} {n : Nat} {ms : List D} (hj : JarAt M n) (h1 : ms ≠ []) (h2 : ms.length < 1000) :
    ∃ v M', c__law_pick [.cel n, .lst ms] M = .ok v M' ∧ v ∈ ms ∧ JarAt M' n := by
  have hl : 0 < ms.length := List.length_pos_iff.mpr h1
  obtain ⟨v, M', e, h3, h4, h5⟩ := dip_ok (m := (ms.length : Int)) hj (by omega) (by omega)
  have e0 : env0 N__law_pick.length [.cel n, .lst ms] = [.shr (.cel n), .shr (.lst ms), .no] := rfl
  obtain ⟨k, rfl⟩ : ∃ k : Nat, v = (k : Int) := ⟨v.toNat, by omega⟩
  have hk : k < ms.length := by omega
  have e2 : atI ms ((k : Nat) : Int) = some ms[k] := atI_nat (by simp [hk])
  refine ⟨ms[k], M', ?_, List.getElem_mem _, h5⟩
  unfold c__law_pick
  rw [e0]
  simp [b__law_pick, e, e2]
end HP
set_option maxRecDepth 100000
set_option maxHeartbeats 8000000
namespace HP
open MP PySem L2
def B3 : D := .ins "Bounds" [("all", .tup [.int 3, .tup []])]
def L3 : D := .ins "Ledger" [("word", .str "both"), ("state", .tup [B3, .tup []])]
theorem b3_ok {M : List D} : c_Bounds___init__ [.int 3, .tup []] M = .ok B3 M := by kernel_rfl
theorem l3_ok {M : List D} : c_Ledger___init__ [.int 3, .str "both"] M = .ok L3 M := by kernel_rfl
def textsL : List D := [.str "", .str "\n", .str "stops", .str "stops ", .str "stops 1", .str "stops 11", .str "stops 03", .str "stops -3", .str "stops +3", .str "Stops 3", .str " stops 3", .str "stops 3 ", .str "stops  3", .str "stops 3\n", .str "stops 3\n\n0 1 0 5", .str "stops 3\n0 1 0 5\n", .str "stops 3\n0 1 0 5 ", .str "stops 3\n0 1 6 5", .str "stops 3\n0 1 - 5", .str "stops 3\n0 1 0 +", .str "stops 3\n0 1 00 5", .str "stops 3\n0 1 0 --", .str "stops 3\n0 2 0 5\n0 1 0 5", .str "stops 3\n0 1 0 5\n0 1 0 5", .str "stops 3\n0 3 0 5", .str "stops 3\n1 1 0 5", .str "stops 3\n0 1 0 1000000000001", .str "stops 3\n0 1 0", .str "stops 3\n0 1 0 5 5", .str "stops 3\n0  1 0 5", .non, .int 3, .bl true, .tup [.str "stops 3"], .lst [.str "stops 3"], B3, L3, .dK [], .tup [], .str "0 1 0 5", .str "stops 3\n0 1 0 None"]
theorem tl_run {M : List D} {c : Nat} : b__law_text_like [.shr (.cel c), .no] M = bRet (e2 oIx (eVB 1) (eCall (apC c__law_draw 2 []) (lCons (eV 0) (lCons (eCall bLen (lCons (eVB 1) lNil)) lNil)))) [.shr (.cel c), .own (.lst textsL)] M := by kernel_rfl
theorem text_like_ok {M : List D} {c : Nat} (hj : JarAt M c) : ∃ x M', c__law_text_like [.cel c] M = .ok x M' ∧ x ∈ textsL ∧ JarAt M' c := by
  have e0 : env0 N__law_text_like.length [.cel c] = [.shr (.cel c), .no] := rfl
  obtain ⟨v, M1, e1, v0, v1, j1⟩ := dip_ok (m := 41) hj (by decide) (by decide)
  obtain ⟨k, rfl⟩ : ∃ k : Nat, v = (k : Int) := ⟨v.toNat, by omega⟩
  have ln : textsL.length = 41 := rfl
  have hk : k < textsL.length := by omega
  have e2 : atI textsL ((k : Nat) : Int) = some textsL[k] := atI_nat (by simp [hk])
  refine ⟨textsL[k], M1, ?_, List.getElem_mem _, j1⟩
  unfold c__law_text_like
  rw [e0, tl_run]
  obtain ⟨T, hT⟩ : ∃ T, T = textsL := ⟨_, rfl⟩
  have e1' : c__law_draw [.cel c, .int ((textsL.length : Nat) : Int)] M = .ok (.int (k : Int)) M1 := by rw [ln]; exact e1
  simp [e1', e2]
def W0 : List D := [.non, .int 5, .str "", .str "Fits", .tup [.str "fits"], .bl true, .lst [], .dK [], .str "may", .str "no  lowest", .str "fits ", B3]
def W2 : List D := [.non, .int 0, .str "", .str "Both", .tup [.str "both"], .bl true, .lst [.str "both"], .dK [], .str "rules", .str "both ", .str "longparts", .str "any"]
def W3 : List D := [.tup [.int 0, .int 3], .tup [.int 1, .int 1], .tup [.int 1, .int 0], .tup [.int (-1), .int 1], .tup [.int 0], .tup [.int 0, .int 1, .int 2], .lst [.int 0, .int 1], .tup [.int 0, .bl true], .tup [.bl false, .int 1], .non, .str "01", .int 0, .tup [.int 0, .str "2"], .dK []]
def W4 : List D := [.non, .bl true, .bl false, .str "2", .tup [.int 2], .lst [], .dK [], B3]
def S6_3 (a t r : D) : List D := [.tup [a, t, r, .non], .tup [a, t], .lst [a, t, r], .tup [a, t], .tup [a], .tup [], .tup [a, t, r, r]]
def S7_3 (a t r : D) (ps : List D) : List D := [.non, .bl true, .int 0, .str "fits", .str "both", .tup [], .lst [], .dK [], .tup [.tup []], B3, L3, .tup [.tup [a, t, r]], .tup ps]
def S8_3 (a t r : D) : List D := [.non, .bl true, .int 0, .int (-1), .str "", .str "()", .lst [], .dK [], .tup [.tup []], .tup [.non, .non, .non, .non, .non, .non], B3, L3, .tup [a, t, r]]
def S6_5 (a t r h p : D) : List D := [.tup [a, t, r, h, p, .non], .tup [a, t, r, h], .lst [a, t, r, h, p], .tup [a, t], .tup [a], .tup [], .tup [a, t, r, h, p, p]]
def S7_5 (a t r h p : D) (ps : List D) : List D := [.non, .bl true, .int 0, .str "fits", .str "both", .tup [], .lst [], .dK [], .tup [.tup []], B3, L3, .tup [.tup [a, t, r, h, p]], .tup ps]
def S8_5 (a t r h p : D) : List D := [.non, .bl true, .int 0, .int (-1), .str "", .str "()", .lst [], .dK [], .tup [.tup []], .tup [.non, .non, .non, .non, .non, .non], B3, L3, .tup [a, t, r, h, p]]
def S9 (ps : List D) : List D := [.lst ps, .tup [.tup ps], .tup (ps ++ [.int 0]), .tup (ps ++ ps), .lst [.tup ps], .tup (cutD ps none (some (-1)) ++ [.non])]
def cands3 (a t r : D) (ps : List D) : List (List (D × D)) := [(W0.map fun x => (.tup [x, t, r], .tup ps)), (textsL.map fun x => (.tup [a, x, r], .tup ps)), (W2.map fun x => (.tup [a, t, x], .tup ps)), ((S6_3 a t r).map fun x => (x, .tup ps)), ((S7_3 a t r ps).map fun x => (x, .tup ps)), ((S8_3 a t r).map fun x => (.tup [a, t, r], x)), ((S9 ps).map fun x => (.tup [a, t, r], x))]
theorem wrong3_ok {M : List D} {c : Nat} {a t r : D} {ps : List D} (hl : ps.length ≤ 10) (hj : JarAt M c) : ∃ w o M', c__law_wrong [.cel c, .tup [a, t, r], .tup ps] M = .ok (.tup [w, o]) M' ∧ (∃ l ∈ cands3 a t r ps, (w, o) ∈ l) ∧ JarAt M' c := by
  have e0 : env0 N__law_wrong.length [.cel c, .tup [a, t, r], .tup ps] = [.shr (.cel c), .shr (.tup [a, t, r]), .shr (.tup ps), .no, .no, .no, .no] := rfl
  obtain ⟨v, M1, e1, v0, v1, j1⟩ := dip_ok (m := 9) hj (by decide) (by decide)
  have b3 := fun M => b3_ok (M := M)
  have l3 := fun M => l3_ok (M := M)
  have lt : ∀ (xs : List D) M, xs.length ≤ 100 → lenR D.tup xs M = .ok (.tup xs) M := fun xs M h => if_pos (Nat.le_trans h (by decide))
  have ll : ∀ (xs : List D) M, xs.length ≤ 100 → lenR D.lst xs M = .ok (.lst xs) M := fun xs M h => if_pos (Nat.le_trans h (by decide))
  have at_ : ∀ (xs ys : List D) M, xs.length + ys.length ≤ 100 → oAdd (.tup xs) (.tup ys) M = .ok (.tup (xs ++ ys)) M := fun xs ys M h => if_pos (Nat.le_trans h (by decide))
  have bl : ∀ (xs : List D) M, bLstOf [.tup xs] M = .ok (.lst xs) M := fun _ _ => rfl
  have mt : ∀ M, oMulT (.tup [.non]) (.int 6) M = .ok (.tup [.non, .non, .non, .non, .non, .non]) M := fun _ => rfl
  have sl : ∀ (xs : List D) (i j : Option Int) M, oSlE (.tup xs) i j M = .ok (.tup (cutD xs i j)) M := fun _ _ _ _ => rfl
  have al : ∀ (xs ys : List D) M, xs.length + ys.length ≤ 100 → oAdd (.lst xs) (.lst ys) M = .ok (.lst (xs ++ ys)) M := fun xs ys M h => if_pos (Nat.le_trans h (by decide))
  have q1 : ∀ M, oAdd (.tup ps) (.tup [.int 0]) M = .ok (.tup (ps ++ [.int 0])) M := fun M => at_ ps [.int 0] M (by rw [List.length_singleton]; omega)
  have q2 : ∀ M, oAdd (.tup ps) (.tup ps) M = .ok (.tup (ps ++ ps)) M := fun M => at_ ps ps M (by omega)
  have c_1_n : cutD [a, t, r] (some 1) none = [t, r] := rfl
  have c_n_1 : cutD [a, t, r] none (some 1) = [a] := rfl
  have c_2_n : cutD [a, t, r] (some 2) none = [r] := rfl
  have c_n_2 : cutD [a, t, r] none (some 2) = [a, t] := rfl
  have c_3_n : cutD [a, t, r] (some 3) none = [] := rfl
  have c_n_3 : cutD [a, t, r] none (some 3) = [a, t, r] := rfl
  have c_n_m1 : cutD [a, t, r] none (some (-1)) = [a, t] := rfl
  have i4 : ∀ M, oIx (.tup [a, t, r]) (.int 2) M = .ok r M := fun _ => rfl
  have im : ∀ M, oIx (.tup [a, t, r]) (.int (-1)) M = .ok r M := fun _ => rfl
  have cut_le : (cutD ps none (some (-1))).length ≤ 10 := by
    have : (cutD ps none (some (-1))).length ≤ ps.length := by unfold cutD; rw [List.length_take, List.length_drop]; omega
    omega
  have q3 : ∀ M, oAdd (.tup (cutD ps none (some (-1)))) (.tup [.non]) M = .ok (.tup (cutD ps none (some (-1)) ++ [.non])) M := fun M => at_ _ [.non] M (by rw [List.length_singleton]; omega)
  unfold c__law_wrong
  rw [e0]
  have hv : v = 0 ∨ v = 1 ∨ v = 2 ∨ v = 3 ∨ v = 4 ∨ v = 5 ∨ v = 6 ∨ v = 7 ∨ v = 8 := by omega
  rcases hv with rfl | rfl | rfl | rfl | rfl | rfl | rfl | rfl | rfl
  · obtain ⟨x, M2, e2, hx, j2⟩ := pick_ok (ms := W0) j1 (by simp [W0]) (by simp [W0])
    refine ⟨.tup [x, t, r], .tup ps, M2, ?_, ⟨(W0).map fun x => (.tup [x, t, r], .tup ps), by simp [cands3], List.mem_map.mpr ⟨x, hx, rfl⟩⟩, j2⟩
    simp only [W0] at e2
    simp [b__law_wrong, b3, l3, lt, ll, at_, al, bl, mt, eSl, eInt, optI, sl, c_1_n, c_n_1, c_2_n, c_n_2, c_3_n, c_n_3, c_n_m1, i4, im, q1, q2, q3, e1, e2, hl, cut_le]
  · obtain ⟨x, M2, e2, hx, j2⟩ := text_like_ok j1
    refine ⟨.tup [a, x, r], .tup ps, M2, ?_, ⟨textsL.map fun x => (.tup [a, x, r], .tup ps), by simp [cands3], List.mem_map.mpr ⟨x, hx, rfl⟩⟩, j2⟩
    simp [b__law_wrong, b3, l3, lt, ll, at_, al, bl, mt, eSl, eInt, optI, sl, c_1_n, c_n_1, c_2_n, c_n_2, c_3_n, c_n_3, c_n_m1, i4, im, q1, q2, q3, e1, e2]
  · obtain ⟨x, M2, e2, hx, j2⟩ := pick_ok (ms := W2) j1 (by simp [W2]) (by simp [W2])
    refine ⟨.tup [a, t, x], .tup ps, M2, ?_, ⟨(W2).map fun x => (.tup [a, t, x], .tup ps), by simp [cands3], List.mem_map.mpr ⟨x, hx, rfl⟩⟩, j2⟩
    simp only [W2] at e2
    simp [b__law_wrong, b3, l3, lt, ll, at_, al, bl, mt, eSl, eInt, optI, sl, c_1_n, c_n_1, c_2_n, c_n_2, c_3_n, c_n_3, c_n_m1, i4, im, q1, q2, q3, e1, e2, hl, cut_le]
  · obtain ⟨x, M2, e2, hx, j2⟩ := pick_ok (ms := S6_3 a t r) j1 (by simp [S6_3]) (by simp [S6_3])
    refine ⟨x, .tup ps, M2, ?_, ⟨(S6_3 a t r).map fun x => (x, .tup ps), by simp [cands3], List.mem_map.mpr ⟨x, hx, rfl⟩⟩, j2⟩
    simp only [S6_3] at e2
    simp [b__law_wrong, b3, l3, lt, ll, at_, al, bl, mt, eSl, eInt, optI, sl, c_1_n, c_n_1, c_2_n, c_n_2, c_3_n, c_n_3, c_n_m1, i4, im, q1, q2, q3, e1, e2, hl, cut_le]
  · obtain ⟨x, M2, e2, hx, j2⟩ := pick_ok (ms := S6_3 a t r) j1 (by simp [S6_3]) (by simp [S6_3])
    refine ⟨x, .tup ps, M2, ?_, ⟨(S6_3 a t r).map fun x => (x, .tup ps), by simp [cands3], List.mem_map.mpr ⟨x, hx, rfl⟩⟩, j2⟩
    simp only [S6_3] at e2
    simp [b__law_wrong, b3, l3, lt, ll, at_, al, bl, mt, eSl, eInt, optI, sl, c_1_n, c_n_1, c_2_n, c_n_2, c_3_n, c_n_3, c_n_m1, i4, im, q1, q2, q3, e1, e2, hl, cut_le]
  · obtain ⟨x, M2, e2, hx, j2⟩ := pick_ok (ms := S6_3 a t r) j1 (by simp [S6_3]) (by simp [S6_3])
    refine ⟨x, .tup ps, M2, ?_, ⟨(S6_3 a t r).map fun x => (x, .tup ps), by simp [cands3], List.mem_map.mpr ⟨x, hx, rfl⟩⟩, j2⟩
    simp only [S6_3] at e2
    simp [b__law_wrong, b3, l3, lt, ll, at_, al, bl, mt, eSl, eInt, optI, sl, c_1_n, c_n_1, c_2_n, c_n_2, c_3_n, c_n_3, c_n_m1, i4, im, q1, q2, q3, e1, e2, hl, cut_le]
  · obtain ⟨x, M2, e2, hx, j2⟩ := pick_ok (ms := S7_3 a t r ps) j1 (by simp [S7_3]) (by simp [S7_3])
    refine ⟨x, .tup ps, M2, ?_, ⟨(S7_3 a t r ps).map fun x => (x, .tup ps), by simp [cands3], List.mem_map.mpr ⟨x, hx, rfl⟩⟩, j2⟩
    simp only [S7_3] at e2
    simp [b__law_wrong, b3, l3, lt, ll, at_, al, bl, mt, eSl, eInt, optI, sl, c_1_n, c_n_1, c_2_n, c_n_2, c_3_n, c_n_3, c_n_m1, i4, im, q1, q2, q3, e1, e2, hl, cut_le]
  · obtain ⟨x, M2, e2, hx, j2⟩ := pick_ok (ms := S8_3 a t r) j1 (by simp [S8_3]) (by simp [S8_3])
    refine ⟨.tup [a, t, r], x, M2, ?_, ⟨(S8_3 a t r).map fun x => (.tup [a, t, r], x), by simp [cands3], List.mem_map.mpr ⟨x, hx, rfl⟩⟩, j2⟩
    simp only [S8_3] at e2
    simp [b__law_wrong, b3, l3, lt, ll, at_, al, bl, mt, eSl, eInt, optI, sl, c_1_n, c_n_1, c_2_n, c_n_2, c_3_n, c_n_3, c_n_m1, i4, im, q1, q2, q3, e1, e2, hl, cut_le]
  · obtain ⟨x, M2, e2, hx, j2⟩ := pick_ok (ms := S9 ps) j1 (by simp [S9]) (by simp [S9])
    refine ⟨.tup [a, t, r], x, M2, ?_, ⟨(S9 ps).map fun x => (.tup [a, t, r], x), by simp [cands3], List.mem_map.mpr ⟨x, hx, rfl⟩⟩, j2⟩
    simp only [S9] at e2
    simp [b__law_wrong, b3, l3, lt, ll, at_, al, bl, mt, eSl, eInt, optI, sl, c_1_n, c_n_1, c_2_n, c_n_2, c_3_n, c_n_3, c_n_m1, i4, im, q1, q2, q3, e1, e2, hl, cut_le]
def cands5 (a t r h p : D) (ps : List D) : List (List (D × D)) := [(W0.map fun x => (.tup [x, t, r, h, p], .tup ps)), (textsL.map fun x => (.tup [a, x, r, h, p], .tup ps)), (W2.map fun x => (.tup [a, t, x, h, p], .tup ps)), (W3.map fun x => (.tup [a, t, r, x, p], .tup ps)), (W4.map fun x => (.tup [a, t, r, h, x], .tup ps)), ((S6_5 a t r h p).map fun x => (x, .tup ps)), ((S7_5 a t r h p ps).map fun x => (x, .tup ps)), ((S8_5 a t r h p).map fun x => (.tup [a, t, r, h, p], x)), ((S9 ps).map fun x => (.tup [a, t, r, h, p], x))]
theorem wrong5_ok {M : List D} {c : Nat} {a t r h p : D} {ps : List D} (hl : ps.length ≤ 10) (hj : JarAt M c) : ∃ w o M', c__law_wrong [.cel c, .tup [a, t, r, h, p], .tup ps] M = .ok (.tup [w, o]) M' ∧ (∃ l ∈ cands5 a t r h p ps, (w, o) ∈ l) ∧ JarAt M' c := by
  have e0 : env0 N__law_wrong.length [.cel c, .tup [a, t, r, h, p], .tup ps] = [.shr (.cel c), .shr (.tup [a, t, r, h, p]), .shr (.tup ps), .no, .no, .no, .no] := rfl
  obtain ⟨v, M1, e1, v0, v1, j1⟩ := dip_ok (m := 9) hj (by decide) (by decide)
  have b3 := fun M => b3_ok (M := M)
  have l3 := fun M => l3_ok (M := M)
  have lt : ∀ (xs : List D) M, xs.length ≤ 100 → lenR D.tup xs M = .ok (.tup xs) M := fun xs M h => if_pos (Nat.le_trans h (by decide))
  have ll : ∀ (xs : List D) M, xs.length ≤ 100 → lenR D.lst xs M = .ok (.lst xs) M := fun xs M h => if_pos (Nat.le_trans h (by decide))
  have at_ : ∀ (xs ys : List D) M, xs.length + ys.length ≤ 100 → oAdd (.tup xs) (.tup ys) M = .ok (.tup (xs ++ ys)) M := fun xs ys M h => if_pos (Nat.le_trans h (by decide))
  have bl : ∀ (xs : List D) M, bLstOf [.tup xs] M = .ok (.lst xs) M := fun _ _ => rfl
  have mt : ∀ M, oMulT (.tup [.non]) (.int 6) M = .ok (.tup [.non, .non, .non, .non, .non, .non]) M := fun _ => rfl
  have sl : ∀ (xs : List D) (i j : Option Int) M, oSlE (.tup xs) i j M = .ok (.tup (cutD xs i j)) M := fun _ _ _ _ => rfl
  have al : ∀ (xs ys : List D) M, xs.length + ys.length ≤ 100 → oAdd (.lst xs) (.lst ys) M = .ok (.lst (xs ++ ys)) M := fun xs ys M h => if_pos (Nat.le_trans h (by decide))
  have q1 : ∀ M, oAdd (.tup ps) (.tup [.int 0]) M = .ok (.tup (ps ++ [.int 0])) M := fun M => at_ ps [.int 0] M (by rw [List.length_singleton]; omega)
  have q2 : ∀ M, oAdd (.tup ps) (.tup ps) M = .ok (.tup (ps ++ ps)) M := fun M => at_ ps ps M (by omega)
  have c_1_n : cutD [a, t, r, h, p] (some 1) none = [t, r, h, p] := rfl
  have c_n_1 : cutD [a, t, r, h, p] none (some 1) = [a] := rfl
  have c_2_n : cutD [a, t, r, h, p] (some 2) none = [r, h, p] := rfl
  have c_n_2 : cutD [a, t, r, h, p] none (some 2) = [a, t] := rfl
  have c_3_n : cutD [a, t, r, h, p] (some 3) none = [h, p] := rfl
  have c_n_3 : cutD [a, t, r, h, p] none (some 3) = [a, t, r] := rfl
  have c_n_m1 : cutD [a, t, r, h, p] none (some (-1)) = [a, t, r, h] := rfl
  have c_n_4 : cutD [a, t, r, h, p] none (some 4) = [a, t, r, h] := rfl
  have i4 : ∀ M, oIx (.tup [a, t, r, h, p]) (.int 4) M = .ok p M := fun _ => rfl
  have im : ∀ M, oIx (.tup [a, t, r, h, p]) (.int (-1)) M = .ok p M := fun _ => rfl
  have cut_le : (cutD ps none (some (-1))).length ≤ 10 := by
    have : (cutD ps none (some (-1))).length ≤ ps.length := by unfold cutD; rw [List.length_take, List.length_drop]; omega
    omega
  have q3 : ∀ M, oAdd (.tup (cutD ps none (some (-1)))) (.tup [.non]) M = .ok (.tup (cutD ps none (some (-1)) ++ [.non])) M := fun M => at_ _ [.non] M (by rw [List.length_singleton]; omega)
  unfold c__law_wrong
  rw [e0]
  have hv : v = 0 ∨ v = 1 ∨ v = 2 ∨ v = 3 ∨ v = 4 ∨ v = 5 ∨ v = 6 ∨ v = 7 ∨ v = 8 := by omega
  rcases hv with rfl | rfl | rfl | rfl | rfl | rfl | rfl | rfl | rfl
  · obtain ⟨x, M2, e2, hx, j2⟩ := pick_ok (ms := W0) j1 (by simp [W0]) (by simp [W0])
    refine ⟨.tup [x, t, r, h, p], .tup ps, M2, ?_, ⟨(W0).map fun x => (.tup [x, t, r, h, p], .tup ps), by simp [cands5], List.mem_map.mpr ⟨x, hx, rfl⟩⟩, j2⟩
    simp only [W0] at e2
    simp [b__law_wrong, b3, l3, lt, ll, at_, al, bl, mt, eSl, eInt, optI, sl, c_1_n, c_n_1, c_2_n, c_n_2, c_3_n, c_n_3, c_n_m1, c_n_4, i4, im, q1, q2, q3, e1, e2, hl, cut_le]
  · obtain ⟨x, M2, e2, hx, j2⟩ := text_like_ok j1
    refine ⟨.tup [a, x, r, h, p], .tup ps, M2, ?_, ⟨textsL.map fun x => (.tup [a, x, r, h, p], .tup ps), by simp [cands5], List.mem_map.mpr ⟨x, hx, rfl⟩⟩, j2⟩
    simp [b__law_wrong, b3, l3, lt, ll, at_, al, bl, mt, eSl, eInt, optI, sl, c_1_n, c_n_1, c_2_n, c_n_2, c_3_n, c_n_3, c_n_m1, c_n_4, i4, im, q1, q2, q3, e1, e2]
  · obtain ⟨x, M2, e2, hx, j2⟩ := pick_ok (ms := W2) j1 (by simp [W2]) (by simp [W2])
    refine ⟨.tup [a, t, x, h, p], .tup ps, M2, ?_, ⟨(W2).map fun x => (.tup [a, t, x, h, p], .tup ps), by simp [cands5], List.mem_map.mpr ⟨x, hx, rfl⟩⟩, j2⟩
    simp only [W2] at e2
    simp [b__law_wrong, b3, l3, lt, ll, at_, al, bl, mt, eSl, eInt, optI, sl, c_1_n, c_n_1, c_2_n, c_n_2, c_3_n, c_n_3, c_n_m1, c_n_4, i4, im, q1, q2, q3, e1, e2, hl, cut_le]
  · obtain ⟨x, M2, e2, hx, j2⟩ := pick_ok (ms := W3) j1 (by simp [W3]) (by simp [W3])
    refine ⟨.tup [a, t, r, x, p], .tup ps, M2, ?_, ⟨(W3).map fun x => (.tup [a, t, r, x, p], .tup ps), by simp [cands5], List.mem_map.mpr ⟨x, hx, rfl⟩⟩, j2⟩
    simp only [W3] at e2
    simp [b__law_wrong, b3, l3, lt, ll, at_, al, bl, mt, eSl, eInt, optI, sl, c_1_n, c_n_1, c_2_n, c_n_2, c_3_n, c_n_3, c_n_m1, c_n_4, i4, im, q1, q2, q3, e1, e2, hl, cut_le]
  · obtain ⟨x, M2, e2, hx, j2⟩ := pick_ok (ms := W4) j1 (by simp [W4]) (by simp [W4])
    refine ⟨.tup [a, t, r, h, x], .tup ps, M2, ?_, ⟨(W4).map fun x => (.tup [a, t, r, h, x], .tup ps), by simp [cands5], List.mem_map.mpr ⟨x, hx, rfl⟩⟩, j2⟩
    simp only [W4] at e2
    simp [b__law_wrong, b3, l3, lt, ll, at_, al, bl, mt, eSl, eInt, optI, sl, c_1_n, c_n_1, c_2_n, c_n_2, c_3_n, c_n_3, c_n_m1, c_n_4, i4, im, q1, q2, q3, e1, e2, hl, cut_le]
  · obtain ⟨x, M2, e2, hx, j2⟩ := pick_ok (ms := S6_5 a t r h p) j1 (by simp [S6_5]) (by simp [S6_5])
    refine ⟨x, .tup ps, M2, ?_, ⟨(S6_5 a t r h p).map fun x => (x, .tup ps), by simp [cands5], List.mem_map.mpr ⟨x, hx, rfl⟩⟩, j2⟩
    simp only [S6_5] at e2
    simp [b__law_wrong, b3, l3, lt, ll, at_, al, bl, mt, eSl, eInt, optI, sl, c_1_n, c_n_1, c_2_n, c_n_2, c_3_n, c_n_3, c_n_m1, c_n_4, i4, im, q1, q2, q3, e1, e2, hl, cut_le]
  · obtain ⟨x, M2, e2, hx, j2⟩ := pick_ok (ms := S7_5 a t r h p ps) j1 (by simp [S7_5]) (by simp [S7_5])
    refine ⟨x, .tup ps, M2, ?_, ⟨(S7_5 a t r h p ps).map fun x => (x, .tup ps), by simp [cands5], List.mem_map.mpr ⟨x, hx, rfl⟩⟩, j2⟩
    simp only [S7_5] at e2
    simp [b__law_wrong, b3, l3, lt, ll, at_, al, bl, mt, eSl, eInt, optI, sl, c_1_n, c_n_1, c_2_n, c_n_2, c_3_n, c_n_3, c_n_m1, c_n_4, i4, im, q1, q2, q3, e1, e2, hl, cut_le]
  · obtain ⟨x, M2, e2, hx, j2⟩ := pick_ok (ms := S8_5 a t r h p) j1 (by simp [S8_5]) (by simp [S8_5])
    refine ⟨.tup [a, t, r, h, p], x, M2, ?_, ⟨(S8_5 a t r h p).map fun x => (.tup [a, t, r, h, p], x), by simp [cands5], List.mem_map.mpr ⟨x, hx, rfl⟩⟩, j2⟩
    simp only [S8_5] at e2
    simp [b__law_wrong, b3, l3, lt, ll, at_, al, bl, mt, eSl, eInt, optI, sl, c_1_n, c_n_1, c_2_n, c_n_2, c_3_n, c_n_3, c_n_m1, c_n_4, i4, im, q1, q2, q3, e1, e2, hl, cut_le]
  · obtain ⟨x, M2, e2, hx, j2⟩ := pick_ok (ms := S9 ps) j1 (by simp [S9]) (by simp [S9])
    refine ⟨.tup [a, t, r, h, p], x, M2, ?_, ⟨(S9 ps).map fun x => (.tup [a, t, r, h, p], x), by simp [cands5], List.mem_map.mpr ⟨x, hx, rfl⟩⟩, j2⟩
    simp only [S9] at e2
    simp [b__law_wrong, b3, l3, lt, ll, at_, al, bl, mt, eSl, eInt, optI, sl, c_1_n, c_n_1, c_2_n, c_n_2, c_3_n, c_n_3, c_n_m1, c_n_4, i4, im, q1, q2, q3, e1, e2, hl, cut_le]
end HP
set_option maxRecDepth 100000
set_option maxHeartbeats 8000000
namespace HP
open MP PySem L2
theorem bad_of {ls : List (List (D × D))} (h : ∀ M : List D, (ls.map fun l => l.map fun x => c_accepts [x.1, x.2] M) = ls.map fun l => l.map fun _ => R.ok (.bl false) M) : ∀ l ∈ ls, ∀ x ∈ l, ∀ M, c_accepts [x.1, x.2] M = .ok (.bl false) M := by
  intro l hl x hx M
  have h1 := (List.map_inj_left.mp (h M)) l hl
  exact (List.map_inj_left.mp h1) x hx
def mine0 : D := .tup [.str "fits", .str "stops 3\n0 1 0 5\n0 2 7 9\n1 2 0 5", .str "both"]
def ps0 : List D := [.tup [.int 4, .int 7], .tup [.int 3]]
theorem good0 {M : List D} : c_accepts [mine0, .tup ps0] M = .ok (.bl true) M := by kernel_rfl
theorem bad0 : ∀ l ∈ cands3 (.str "fits") (.str "stops 3\n0 1 0 5\n0 2 7 9\n1 2 0 5") (.str "both") ps0, ∀ x ∈ l, ∀ M, c_accepts [x.1, x.2] M = .ok (.bl false) M := bad_of fun M => by kernel_rfl
def mine1 : D := .tup [.str "none", .str "stops 3\n0 1 0 3\n0 2 7 9\n1 2 1 3", .str "both"]
def ps1 : List D := [.tup [.int 0, .int 2], .tup [.tup [.int 0, .int 1], .tup [.int 1, .int 2]]]
theorem good1 {M : List D} : c_accepts [mine1, .tup ps1] M = .ok (.bl true) M := by kernel_rfl
theorem bad1 : ∀ l ∈ cands3 (.str "none") (.str "stops 3\n0 1 0 3\n0 2 7 9\n1 2 1 3") (.str "both") ps1, ∀ x ∈ l, ∀ M, c_accepts [x.1, x.2] M = .ok (.bl false) M := bad_of fun M => by kernel_rfl
def mine2 : D := .tup [.str "most", .str "stops 3\n0 1 0 5\n0 2 7 9\n1 2 0 5", .str "both", .tup [.int 0, .int 2], .int 9]
def ps2 : List D := [.tup [.int 0, .int 2]]
theorem good2 {M : List D} : c_accepts [mine2, .tup ps2] M = .ok (.bl true) M := by kernel_rfl
theorem bad2 : ∀ l ∈ cands5 (.str "most") (.str "stops 3\n0 1 0 5\n0 2 7 9\n1 2 0 5") (.str "both") (.tup [.int 0, .int 2]) (.int 9) ps2, ∀ x ∈ l, ∀ M, c_accepts [x.1, x.2] M = .ok (.bl false) M := bad_of fun M => by kernel_rfl
def mine3 : D := .tup [.str "least", .str "stops 3\n0 1 0 5\n0 2 7 9\n1 2 0 5", .str "both", .tup [.int 0, .int 1], .int 2]
def ps3 : List D := [.tup [.int 0, .int 2], .tup [], .tup [.tup [.int 1, .int 2]]]
theorem good3 {M : List D} : c_accepts [mine3, .tup ps3] M = .ok (.bl true) M := by kernel_rfl
theorem bad3 : ∀ l ∈ cands5 (.str "least") (.str "stops 3\n0 1 0 5\n0 2 7 9\n1 2 0 5") (.str "both") (.tup [.int 0, .int 1]) (.int 2) ps3, ∀ x ∈ l, ∀ M, c_accepts [x.1, x.2] M = .ok (.bl false) M := bad_of fun M => by kernel_rfl
def mine4 : D := .tup [.str "can", .str "stops 3\n0 1 0 5\n0 2 7 9\n1 2 0 5", .str "both", .tup [.int 1, .int 2], .int 2]
def ps4 : List D := [.tup [.int 5, .int 7], .tup [.int 2]]
theorem good4 {M : List D} : c_accepts [mine4, .tup ps4] M = .ok (.bl true) M := by kernel_rfl
theorem bad4 : ∀ l ∈ cands5 (.str "can") (.str "stops 3\n0 1 0 5\n0 2 7 9\n1 2 0 5") (.str "both") (.tup [.int 1, .int 2]) (.int 2) ps4, ∀ x ∈ l, ∀ M, c_accepts [x.1, x.2] M = .ok (.bl false) M := bad_of fun M => by kernel_rfl
def mine5 : D := .tup [.str "lowest", .str "stops 3\n0 2 7 9\n1 2 7 -", .str "both"]
def ps5 : List D := [.tup [.tup [.int 0, .int 7], .tup [.int 7]], .tup [.tup [], .tup [.tup [.int 0, .int 2], .tup [], .tup []], .tup [.tup [.int 1, .int 2], .tup [], .tup []]]]
theorem good5 {M : List D} : c_accepts [mine5, .tup ps5] M = .ok (.bl true) M := by kernel_rfl
theorem bad5 : ∀ l ∈ cands3 (.str "lowest") (.str "stops 3\n0 2 7 9\n1 2 7 -") (.str "both") ps5, ∀ x ∈ l, ∀ M, c_accepts [x.1, x.2] M = .ok (.bl false) M := bad_of fun M => by kernel_rfl
def mine6 : D := .tup [.str "no lowest", .str "stops 3\n0 1 0 5\n0 2 7 9\n1 2 0 5", .str "both"]
def ps6 : List D := [.int 0, .int 1, .int 2, .tup [.tup [.int 2, .int 7], .tup [.int 5]], .tup [.tup [.int 5, .int 7], .tup [.int 2]], .tup [.tup [.int 0, .int 2], .tup [], .tup []]]
theorem good6 {M : List D} : c_accepts [mine6, .tup ps6] M = .ok (.bl true) M := by kernel_rfl
theorem bad6 : ∀ l ∈ cands3 (.str "no lowest") (.str "stops 3\n0 1 0 5\n0 2 7 9\n1 2 0 5") (.str "both") ps6, ∀ x ∈ l, ∀ M, c_accepts [x.1, x.2] M = .ok (.bl false) M := bad_of fun M => by kernel_rfl
def MENU : List D := [.tup [mine0, .tup ps0], .tup [mine1, .tup ps1], .tup [mine2, .tup ps2], .tup [mine3, .tup ps3], .tup [mine4, .tup ps4], .tup [mine5, .tup ps5], .tup [mine6, .tup ps6]]
theorem menu_ok {M : List D} : c__law_menu [] M = .ok (.lst MENU) M := by kernel_rfl
structure GoodP (m p : D) : Prop where
  good : ∀ M, c_accepts [m, p] M = .ok (.bl true) M
  wrong : ∀ M c, JarAt M c → ∃ w o M', c__law_wrong [.cel c, m, p] M = .ok (.tup [w, o]) M' ∧ (∀ M, c_accepts [w, o] M = .ok (.bl false) M) ∧ JarAt M' c
theorem menu_good : ∀ x ∈ MENU, ∃ m p, x = .tup [m, p] ∧ GoodP m p := by
  intro x hx
  simp only [MENU, List.mem_cons, List.not_mem_nil, or_false] at hx
  rcases hx with rfl | rfl | rfl | rfl | rfl | rfl | rfl
  · refine ⟨_, _, rfl, fun M => good0, fun M c hj => ?_⟩
    obtain ⟨w, o, M', e, ⟨l, hl, hm⟩, j⟩ := wrong3_ok (ps := ps0) (by decide) hj
    exact ⟨w, o, M', e, fun M => bad0 l hl _ hm M, j⟩
  · refine ⟨_, _, rfl, fun M => good1, fun M c hj => ?_⟩
    obtain ⟨w, o, M', e, ⟨l, hl, hm⟩, j⟩ := wrong3_ok (ps := ps1) (by decide) hj
    exact ⟨w, o, M', e, fun M => bad1 l hl _ hm M, j⟩
  · refine ⟨_, _, rfl, fun M => good2, fun M c hj => ?_⟩
    obtain ⟨w, o, M', e, ⟨l, hl, hm⟩, j⟩ := wrong5_ok (ps := ps2) (by decide) hj
    exact ⟨w, o, M', e, fun M => bad2 l hl _ hm M, j⟩
  · refine ⟨_, _, rfl, fun M => good3, fun M c hj => ?_⟩
    obtain ⟨w, o, M', e, ⟨l, hl, hm⟩, j⟩ := wrong5_ok (ps := ps3) (by decide) hj
    exact ⟨w, o, M', e, fun M => bad3 l hl _ hm M, j⟩
  · refine ⟨_, _, rfl, fun M => good4, fun M c hj => ?_⟩
    obtain ⟨w, o, M', e, ⟨l, hl, hm⟩, j⟩ := wrong5_ok (ps := ps4) (by decide) hj
    exact ⟨w, o, M', e, fun M => bad4 l hl _ hm M, j⟩
  · refine ⟨_, _, rfl, fun M => good5, fun M c hj => ?_⟩
    obtain ⟨w, o, M', e, ⟨l, hl, hm⟩, j⟩ := wrong3_ok (ps := ps5) (by decide) hj
    exact ⟨w, o, M', e, fun M => bad5 l hl _ hm M, j⟩
  · refine ⟨_, _, rfl, fun M => good6, fun M c hj => ?_⟩
    obtain ⟨w, o, M', e, ⟨l, hl, hm⟩, j⟩ := wrong3_ok (ps := ps6) (by decide) hj
    exact ⟨w, o, M', e, fun M => bad6 l hl _ hm M, j⟩
theorem lap_ok {M : List D} {c : Nat} (hj : JarAt M c) {x2 x3 x4 x5 x6 : MP.B} (f3 : x3.free) (f4 : x4.free) (f5 : x5.free) (f6 : x6.free) :
    ∃ y3 y4 y5 y6 M', b__law_right_1 [.shr (.cel c), .shr (.lst MENU), x2, x3, x4, x5, x6] M = .next [.shr (.cel c), .shr (.lst MENU), x2, .shr y3, .shr y4, .shr y5, .shr y6] M' ∧ JarAt M' c := by
  obtain ⟨x, M1, e1, hx, j1⟩ := pick_ok (ms := MENU) hj (by simp [MENU]) (by simp [MENU])
  obtain ⟨m, p, rfl, g⟩ := menu_good x hx
  obtain ⟨w, o, M2, e2, hf, j2⟩ := g.wrong M1 c j1
  have ap : ∀ {x y : D} {M}, apQ c_accepts 2 0 2 [1, 0] [] [] [x, y] M = c_accepts [y, x] M := apQ_of ⟨rfl, rfl, rfl⟩ rfl
  have o1 : ∀ M, oIsntB (.bl false) (.bl false) M = .ok (.bl false) M := fun _ => rfl
  have o2 : ∀ M, oIsntB (.bl true) (.bl true) M = .ok (.bl false) M := fun _ => rfl
  refine ⟨m, p, w, o, M2, ?_, j2⟩
  have gd := g.good
  simp [b__law_right_1, e1, e2, f3, f4, f5, f6, ap, hf, gd, o1, o2]
theorem right_ok {M : List D} {c : Nat} (hj : JarAt M c) : ∃ M', c__law_right [.cel c] M = .ok (.bl true) M' := by
  have e0 : env0 N__law_right.length [.cel c] = [.shr (.cel c), .no, .no, .no, .no, .no, .no] := rfl
  have mn := fun M => menu_ok (M := M)
  obtain ⟨env2, M2, e1, x2, x3, x4, x5, x6, f2, f3, f4, f5, f6, rfl, j2⟩ := forL_inv (gd := gN 2) (b := b__law_right_1) (ds := rngD 0 12)
    (fun i env M => ∃ x2 x3 x4 x5 x6, MP.B.free x2 ∧ MP.B.free x3 ∧ MP.B.free x4 ∧ MP.B.free x5 ∧ MP.B.free x6 ∧ env = [.shr (.cel c), .shr (.lst MENU), x2, x3, x4, x5, x6] ∧ JarAt M c)
    (by
      rintro ii d env M hd ⟨x2, x3, x4, x5, x6, f2, f3, f4, f5, f6, rfl, hj⟩
      obtain ⟨hi, rfl⟩ := rngD_of hd
      obtain ⟨y3, y4, y5, y6, M', e, j⟩ := lap_ok (x2 := .shr (.int (0 + (ii : Nat)))) hj f3 f4 f5 f6
      exact ⟨[.shr (.cel c), .shr (.lst MENU), .shr (.int (0 + (ii : Nat))), x3, x4, x5, x6], by simp [f2], _, M', e, .shr (.int (0 + (ii : Nat))), .shr y3, .shr y4, .shr y5, .shr y6, trivial, trivial, trivial, trivial, trivial, rfl, j⟩)
    (env := [.shr (.cel c), .shr (.lst MENU), .no, .no, .no, .no, .no]) (M := M) ⟨.no, .no, .no, .no, .no, trivial, trivial, trivial, trivial, trivial, rfl, hj⟩
  have ir : inR (12 : Int) := inR_of (by decide) (by decide)
  refine ⟨M2, ?_⟩
  unfold c__law_right
  rw [e0]
  simp [b__law_right, mn, ir, e1]
theorem law_ok {ns : List Int} (hl : ns.length ≤ 63) : ∃ M, c_law [.scr ns] [] = .ok (.bl true) M := by
  have e0 : env0 N_law.length [.scr ns] = [.shr (.scr ns), .no, .no, .no] := rfl
  have mn := fun M => menu_ok (M := M)
  have ap : ∀ {x y : D} {M}, apQ c_accepts 2 0 2 [1, 0] [] [] [x, y] M = c_accepts [y, x] M := apQ_of ⟨rfl, rfl, rfl⟩ rfl
  have o2 : ∀ M, oIsntB (.bl true) (.bl true) M = .ok (.bl false) M := fun _ => rfl
  have loop : ∀ (xs : List D), (∀ x ∈ xs, x ∈ MENU) → ∀ (x1 x2 : MP.B), x1.free → x2.free → ∃ y1 y2 : MP.B, forL (gT [1, 2]) b_law_1 xs [.shr (.scr ns), x1, x2, .no] [] = .next [.shr (.scr ns), y1, y2, .no] [] := by
    intro xs
    induction xs with
    | nil => intro _ x1 x2 _ _; exact ⟨x1, x2, rfl⟩
    | cons x r ih =>
      intro h x1 x2 f1 f2
      obtain ⟨m, p, rfl, g⟩ := menu_good x (h x (by simp))
      obtain ⟨y1, y2, e⟩ := ih (fun y hy => h y (List.mem_cons_of_mem _ hy)) (.shr m) (.shr p) trivial trivial
      have gd := g.good
      refine ⟨y1, y2, ?_⟩
      rw [forL_cons (show gT [1, 2] (.tup [m, p]) [.shr (.scr ns), x1, x2, .no] = some [.shr (.scr ns), .shr m, .shr p, .no] by simp [f1, f2])]
      have : b_law_1 [.shr (.scr ns), .shr m, .shr p, .no] [] = .next [.shr (.scr ns), .shr m, .shr p, .no] [] := by simp [b_law_1, ap, gd, o2]
      rw [this]
      exact e
  obtain ⟨y1, y2, elp⟩ := loop MENU (fun _ h => h) .no .no trivial trivial
  unfold c_law
  rw [e0]
  obtain ⟨t, ht⟩ : ∃ t : Int, t = mx2 2 (mn2 (ns.length : Int) 4) := ⟨_, rfl⟩
  have ht2 : 2 ≤ t ∧ t ≤ 4 := by rw [ht]; unfold mx2 mn2; split <;> split <;> omega
  have ir : inR t := inR_of (by omega) (by omega)
  obtain ⟨acc, M2, e1, rfl⟩ := comp_inv (gd := gN 3) (ft := eC (.bl true)) (fe := b_law_2) (env0 := [.shr (.scr ns), y1, y2, .no]) (ds := rngD 0 t.toNat)
    (fun i acc M => acc = (List.replicate i true).map D.bl)
    (by
      rintro i d acc M hd rfl
      obtain ⟨hi, rfl⟩ := rngD_of hd
      obtain ⟨dd, s, h1, h2, e⟩ := jar_ok (ns := ns) (k := i) (by omega) hl M
      obtain ⟨M', e2⟩ := right_ok (M := M ++ [jr dd s 0]) (c := M.length) ⟨dd, s, 0, h1, h2, by simp⟩
      refine ⟨[.shr (.scr ns), y1, y2, .shr (.int (0 + (i : Nat)))], by simp, .inl ⟨M, .bl true, M', rfl, ?_, ?_, ?_⟩⟩
      · simp [b_law_2, e, e2]
      · rw [List.length_map, List.length_replicate]
        exact Nat.lt_trans (show i < 1000 by omega) (by decide)
      · rw [List.replicate_succ', List.map_append]; rfl)
    (M := []) rfl
  have ba := bAll_bools (ns := List.replicate (rngD 0 t.toNat).length true) (M := M2)
  refine ⟨M2, ?_⟩
  simp [b_law, mn, elp, ← ht, ir, e1, -List.map_replicate]
  rw [rngD_len] at ba
  rw [ba]
  simp
end HP
set_option maxRecDepth 100000
set_option maxHeartbeats 1000000
namespace HP
open MP
open PySem PySem.Spec PyProof.Rows L2
def top (i : Nat) : Stmt := PySem.Challenge.pw_haulprices_k65_claims_of_any_kind.main.body.getD i (.Pass ⟨0, 0, 0, 0⟩)
abbrev st__law_menu : Stmt := top 62
abbrev st_is_rules : Stmt := top 17
abbrev st_InvalidText___init__ : Stmt := (clsB (top 6)).getD 0 (.Pass ⟨0, 0, 0, 0⟩)
abbrev st_number_in : Stmt := top 28
abbrev st_stops_in : Stmt := top 29
abbrev st_WrongRow___init__ : Stmt := (clsB (top 8)).getD 0 (.Pass ⟨0, 0, 0, 0⟩)
abbrev st_is_integer : Stmt := top 13
abbrev st_is_haul : Stmt := top 16
abbrev st_is_within : Stmt := top 14
abbrev st_is_price : Stmt := top 15
abbrev st_is_range : Stmt := top 27
abbrev st_range_in : Stmt := top 30
abbrev st_check_stops : Stmt := top 22
abbrev st_Bounds___init__ : Stmt := (clsB (top 31)).getD 0 (.Pass ⟨0, 0, 0, 0⟩)
abbrev st_Bounds_read : Stmt := (clsB (top 31)).getD 1 (.Pass ⟨0, 0, 0, 0⟩)
abbrev st_bounds_in : Stmt := top 37
abbrev st_Bounds_stops : Stmt := (clsB (top 31)).getD 3 (.Pass ⟨0, 0, 0, 0⟩)
abbrev st_Bounds_ranges : Stmt := (clsB (top 31)).getD 4 (.Pass ⟨0, 0, 0, 0⟩)
abbrev st_hauls_of : Stmt := top 19
abbrev st_Bounds_leasts : Stmt := (clsB (top 31)).getD 7 (.Pass ⟨0, 0, 0, 0⟩)
abbrev st_Bounds_greatests : Stmt := (clsB (top 31)).getD 8 (.Pass ⟨0, 0, 0, 0⟩)
abbrev st_Question___init__ : Stmt := (clsB (top 36)).getD 0 (.Pass ⟨0, 0, 0, 0⟩)
abbrev st_question_in : Stmt := top 38
abbrev st_are_prices : Stmt := top 39
abbrev st_costs_in : Stmt := top 21
abbrev st_lies_within : Stmt := top 18
abbrev st_triples_of : Stmt := top 20
abbrev st_break_of : Stmt := top 33
abbrev st_is_fitting : Stmt := top 40
abbrev st_fits_shown : Stmt := top 47
abbrev st_is_cover : Stmt := top 41
abbrev st_cost_of : Stmt := top 42
abbrev st_none_shown : Stmt := top 48
abbrev st_most_shown : Stmt := top 49
abbrev st_is_beside : Stmt := top 44
abbrev st_stretch_cost : Stmt := top 43
abbrev st_shows_least : Stmt := top 45
abbrev st_least_shown : Stmt := top 50
abbrev st_can_shown : Stmt := top 51
abbrev st_lowest_shown : Stmt := top 52
abbrev st_no_lowest_shown : Stmt := top 53
abbrev st_accepts : Stmt := top 55
abbrev st__law_draw : Stmt := top 60
abbrev st__law_pick : Stmt := top 61
abbrev st_check_rules : Stmt := top 24
abbrev st_Ledger___init__ : Stmt := (clsB (top 57)).getD 0 (.Pass ⟨0, 0, 0, 0⟩)
abbrev st__law_text_like : Stmt := top 63
abbrev st__law_wrong : Stmt := top 64
abbrev st__law_right : Stmt := top 65
abbrev st__law_well : Stmt := top 59
abbrev st_law : Stmt := top 66
def d__law_menu : DefM := ⟨.g "_law_menu", "_law_menu", "_law_menu", defArgs st__law_menu, defBody st__law_menu, defScope st__law_menu, [], []⟩
def d_is_rules : DefM := ⟨.g "is_rules", "is_rules", "is_rules", defArgs st_is_rules, defBody st_is_rules, defScope st_is_rules, [], []⟩
def d_InvalidText___init__ : DefM := ⟨.m "InvalidText" "__init__", "__init__", "InvalidText.__init__", defArgs st_InvalidText___init__, defBody st_InvalidText___init__, defScope st_InvalidText___init__, [], []⟩
def d_number_in : DefM := ⟨.g "number_in", "number_in", "number_in", defArgs st_number_in, defBody st_number_in, defScope st_number_in, [], []⟩
def d_stops_in : DefM := ⟨.g "stops_in", "stops_in", "stops_in", defArgs st_stops_in, defBody st_stops_in, defScope st_stops_in, [], []⟩
def d_WrongRow___init__ : DefM := ⟨.m "WrongRow" "__init__", "__init__", "WrongRow.__init__", defArgs st_WrongRow___init__, defBody st_WrongRow___init__, defScope st_WrongRow___init__, [], []⟩
def d_is_integer : DefM := ⟨.g "is_integer", "is_integer", "is_integer", defArgs st_is_integer, defBody st_is_integer, defScope st_is_integer, [], []⟩
def d_is_haul : DefM := ⟨.g "is_haul", "is_haul", "is_haul", defArgs st_is_haul, defBody st_is_haul, defScope st_is_haul, [], []⟩
def d_is_within : DefM := ⟨.g "is_within", "is_within", "is_within", defArgs st_is_within, defBody st_is_within, defScope st_is_within, [], []⟩
def d_is_price : DefM := ⟨.g "is_price", "is_price", "is_price", defArgs st_is_price, defBody st_is_price, defScope st_is_price, [], []⟩
def d_is_range : DefM := ⟨.g "is_range", "is_range", "is_range", defArgs st_is_range, defBody st_is_range, defScope st_is_range, [], []⟩
def d_range_in : DefM := ⟨.g "range_in", "range_in", "range_in", defArgs st_range_in, defBody st_range_in, defScope st_range_in, [], []⟩
def d_check_stops : DefM := ⟨.g "check_stops", "check_stops", "check_stops", defArgs st_check_stops, defBody st_check_stops, defScope st_check_stops, [], []⟩
def d_Bounds___init__ : DefM := ⟨.m "Bounds" "__init__", "__init__", "Bounds.__init__", defArgs st_Bounds___init__, defBody st_Bounds___init__, defScope st_Bounds___init__, [.adr (He.dflAt ("Bounds", some "__init__") 0)], []⟩
def d_Bounds_read : DefM := ⟨.c "Bounds" "read", "read", "Bounds.read", defArgs st_Bounds_read, defBody st_Bounds_read, defScope st_Bounds_read, [], []⟩
def d_bounds_in : DefM := ⟨.g "bounds_in", "bounds_in", "bounds_in", defArgs st_bounds_in, defBody st_bounds_in, defScope st_bounds_in, [], []⟩
def d_Bounds_stops : DefM := ⟨.p "Bounds" "stops", "stops", "Bounds.stops", defArgs st_Bounds_stops, defBody st_Bounds_stops, defScope st_Bounds_stops, [], []⟩
def d_Bounds_ranges : DefM := ⟨.p "Bounds" "ranges", "ranges", "Bounds.ranges", defArgs st_Bounds_ranges, defBody st_Bounds_ranges, defScope st_Bounds_ranges, [], []⟩
def d_hauls_of : DefM := ⟨.g "hauls_of", "hauls_of", "hauls_of", defArgs st_hauls_of, defBody st_hauls_of, defScope st_hauls_of, [], []⟩
def d_Bounds_leasts : DefM := ⟨.m "Bounds" "leasts", "leasts", "Bounds.leasts", defArgs st_Bounds_leasts, defBody st_Bounds_leasts, defScope st_Bounds_leasts, [], []⟩
def d_Bounds_greatests : DefM := ⟨.m "Bounds" "greatests", "greatests", "Bounds.greatests", defArgs st_Bounds_greatests, defBody st_Bounds_greatests, defScope st_Bounds_greatests, [], []⟩
def d_Question___init__ : DefM := ⟨.m "Question" "__init__", "__init__", "Question.__init__", defArgs st_Question___init__, defBody st_Question___init__, defScope st_Question___init__, [], []⟩
def d_question_in : DefM := ⟨.g "question_in", "question_in", "question_in", defArgs st_question_in, defBody st_question_in, defScope st_question_in, [], []⟩
def d_are_prices : DefM := ⟨.g "are_prices", "are_prices", "are_prices", defArgs st_are_prices, defBody st_are_prices, defScope st_are_prices, [], []⟩
def d_costs_in : DefM := ⟨.g "costs_in", "costs_in", "costs_in", defArgs st_costs_in, defBody st_costs_in, defScope st_costs_in, [], []⟩
def d_lies_within : DefM := ⟨.g "lies_within", "lies_within", "lies_within", defArgs st_lies_within, defBody st_lies_within, defScope st_lies_within, [], []⟩
def d_triples_of : DefM := ⟨.g "triples_of", "triples_of", "triples_of", defArgs st_triples_of, defBody st_triples_of, defScope st_triples_of, [], []⟩
def d_break_of : DefM := ⟨.g "break_of", "break_of", "break_of", defArgs st_break_of, defBody st_break_of, defScope st_break_of, [], []⟩
def d_is_fitting : DefM := ⟨.g "is_fitting", "is_fitting", "is_fitting", defArgs st_is_fitting, defBody st_is_fitting, defScope st_is_fitting, [], []⟩
def d_fits_shown : DefM := ⟨.g "fits_shown", "fits_shown", "fits_shown", defArgs st_fits_shown, defBody st_fits_shown, defScope st_fits_shown, [], []⟩
def d_is_cover : DefM := ⟨.g "is_cover", "is_cover", "is_cover", defArgs st_is_cover, defBody st_is_cover, defScope st_is_cover, [], []⟩
def d_cost_of : DefM := ⟨.g "cost_of", "cost_of", "cost_of", defArgs st_cost_of, defBody st_cost_of, defScope st_cost_of, [], []⟩
def d_none_shown : DefM := ⟨.g "none_shown", "none_shown", "none_shown", defArgs st_none_shown, defBody st_none_shown, defScope st_none_shown, [], []⟩
def d_most_shown : DefM := ⟨.g "most_shown", "most_shown", "most_shown", defArgs st_most_shown, defBody st_most_shown, defScope st_most_shown, [], []⟩
def d_is_beside : DefM := ⟨.g "is_beside", "is_beside", "is_beside", defArgs st_is_beside, defBody st_is_beside, defScope st_is_beside, [], []⟩
def d_stretch_cost : DefM := ⟨.g "stretch_cost", "stretch_cost", "stretch_cost", defArgs st_stretch_cost, defBody st_stretch_cost, defScope st_stretch_cost, [], []⟩
def d_shows_least : DefM := ⟨.g "shows_least", "shows_least", "shows_least", defArgs st_shows_least, defBody st_shows_least, defScope st_shows_least, [], []⟩
def d_least_shown : DefM := ⟨.g "least_shown", "least_shown", "least_shown", defArgs st_least_shown, defBody st_least_shown, defScope st_least_shown, [], []⟩
def d_can_shown : DefM := ⟨.g "can_shown", "can_shown", "can_shown", defArgs st_can_shown, defBody st_can_shown, defScope st_can_shown, [], []⟩
def d_lowest_shown : DefM := ⟨.g "lowest_shown", "lowest_shown", "lowest_shown", defArgs st_lowest_shown, defBody st_lowest_shown, defScope st_lowest_shown, [], []⟩
def d_no_lowest_shown : DefM := ⟨.g "no_lowest_shown", "no_lowest_shown", "no_lowest_shown", defArgs st_no_lowest_shown, defBody st_no_lowest_shown, defScope st_no_lowest_shown, [], []⟩
def d_accepts : DefM := ⟨.g "accepts", "accepts", "accepts", defArgs st_accepts, defBody st_accepts, defScope st_accepts, [], []⟩
def d__law_draw : DefM := ⟨.g "_law_draw", "_law_draw", "_law_draw", defArgs st__law_draw, defBody st__law_draw, defScope st__law_draw, [], []⟩
def d__law_pick : DefM := ⟨.g "_law_pick", "_law_pick", "_law_pick", defArgs st__law_pick, defBody st__law_pick, defScope st__law_pick, [], []⟩
def d_check_rules : DefM := ⟨.g "check_rules", "check_rules", "check_rules", defArgs st_check_rules, defBody st_check_rules, defScope st_check_rules, [], []⟩
def d_Ledger___init__ : DefM := ⟨.m "Ledger" "__init__", "__init__", "Ledger.__init__", defArgs st_Ledger___init__, defBody st_Ledger___init__, defScope st_Ledger___init__, [], [("rules", .str "both")]⟩
def d__law_text_like : DefM := ⟨.g "_law_text_like", "_law_text_like", "_law_text_like", defArgs st__law_text_like, defBody st__law_text_like, defScope st__law_text_like, [], []⟩
def d__law_wrong : DefM := ⟨.g "_law_wrong", "_law_wrong", "_law_wrong", defArgs st__law_wrong, defBody st__law_wrong, defScope st__law_wrong, [], []⟩
def d__law_right : DefM := ⟨.g "_law_right", "_law_right", "_law_right", defArgs st__law_right, defBody st__law_right, defScope st__law_right, [], []⟩
def d__law_well : DefM := ⟨.g "_law_well", "_law_well", "_law_well", defArgs st__law_well, defBody st__law_well, defScope st__law_well, [], []⟩
def d_law : DefM := ⟨.g "law", "law", "law", defArgs st_law, defBody st_law, defScope st_law, [], []⟩
def fn : List DefM := [d__law_menu, d_is_rules, d_InvalidText___init__, d_number_in, d_stops_in, d_WrongRow___init__, d_is_integer, d_is_haul, d_is_within, d_is_price, d_is_range, d_range_in, d_check_stops, d_Bounds___init__, d_Bounds_read, d_bounds_in, d_Bounds_stops, d_Bounds_ranges, d_hauls_of, d_Bounds_leasts, d_Bounds_greatests, d_Question___init__, d_question_in, d_are_prices, d_costs_in, d_lies_within, d_triples_of, d_break_of, d_is_fitting, d_fits_shown, d_is_cover, d_cost_of, d_none_shown, d_most_shown, d_is_beside, d_stretch_cost, d_shows_least, d_least_shown, d_can_shown, d_lowest_shown, d_no_lowest_shown, d_accepts, d__law_draw, d__law_pick, d_check_rules, d_Ledger___init__, d__law_text_like, d__law_wrong, d__law_right, d__law_well, d_law]
def fa : List He.Fa := ([.glo "_law_menu", .free "tuple", .free "isinstance", .free "len", .free "str", .glo "SIZES", .glo "RULES", .glo "is_rules", .glo "InvalidText", .str "DIGITS" "0123456789", .free "all", .free "int", .glo "number_in", .int "MOST_STOPS" 10, .glo "stops_in", .glo "WrongRow", .free "enumerate", .free "bool", .glo "is_integer", .glo "is_haul", .int "MOST_PRICE" 1000000000000, .glo "is_within", .glo "is_price", .glo "is_range", .glo "range_in", .glo "check_stops", .cls "Bounds", .noat "Bounds" "all", .glo "Bounds", .glo "bounds_in"] : List He.Fa) ++ ([.cls "Question", .noat "Question" "line", .noat "Question" "kind", .free "range", .glo "hauls_of", .meth "Bounds" "leasts", .noat "Question" "least", .meth "Bounds" "greatests", .noat "Question" "greatest", .mkr "Question", .glo "Question", .glo "question_in", .glo "SHOWN", .glo "are_prices", .glo "costs_in", .glo "lies_within", .glo "triples_of", .glo "break_of", .glo "is_fitting", .free "min", .glo "is_cover", .free "sum", .glo "cost_of", .glo "is_beside", .glo "stretch_cost", .glo "shows_least", .free "zip", .glo "accepts", .free "max", .glo "_law_draw"] : List He.Fa) ++ ([.glo "_law_pick", .glo "check_rules", .cls "Ledger", .noat "Ledger" "word", .noat "Ledger" "state", .glo "Ledger", .glo "_law_text_like", .free "list", .glo "_law_wrong", .free "abs", .glo "_law_well", .glo "_law_right", .mkr "Bounds", .mkr "Ledger", .glo "law"] : List He.Fa)
def fm : List Fm := ([.clsT "Ledger", .kit "Ledger" "tuple" false, .clsT "Bounds", .kit "Bounds" "tuple" false, .kit "Ledger" "str" false, .kit "Bounds" "str" false, .strs "RULES" [("both" : Str), ("long" : Str), ("parts" : Str)], .xc "InvalidText" "given", .xc "WrongRow" "index", .kit "Ledger" "int" false, .kit "Bounds" "int" false, .kit "Ledger" "bool" false, .kit "Bounds" "bool" false, .cm "Bounds" "read", .exm "WrongRow" "InvalidText" false, .exm "WrongRow" "WrongRow" true, .exm "InvalidText" "InvalidText" true, .exm "InvalidText" "WrongRow" false, .prop "Bounds" "stops", .prop "Bounds" "ranges", .dtup "Bounds" "__init__" 0] : List Fm)
def ts : List Tb := [("SIZES", [("fits", .int 3), ("none", .int 3), ("most", .int 5), ("least", .int 5), ("can", .int 5), ("lowest", .int 3), ("no lowest", .int 3)]), ("SHOWN", [("fits", .glo "fits_shown"), ("none", .glo "none_shown"), ("most", .glo "most_shown"), ("least", .glo "least_shown"), ("can", .glo "can_shown"), ("lowest", .glo "lowest_shown"), ("no lowest", .glo "no_lowest_shown")])]
theorem sc__law_menu : FnScope N__law_menu [] (defScope st__law_menu) := ⟨rfl, rfl, rfl, by decide +kernel, rfl, by decide +kernel, by decide +kernel⟩
theorem sc_is_rules : FnScope N_is_rules [("value" : Str)] (defScope st_is_rules) := ⟨rfl, rfl, rfl, by decide +kernel, rfl, by decide +kernel, by decide +kernel⟩
theorem sc_InvalidText___init__ : FnScope N_InvalidText___init__ [("self" : Str), ("given" : Str)] (defScope st_InvalidText___init__) := ⟨rfl, rfl, rfl, by decide +kernel, rfl, by decide +kernel, by decide +kernel⟩
theorem sc_number_in : FnScope N_number_in [("word" : Str)] (defScope st_number_in) := ⟨rfl, rfl, rfl, by decide +kernel, rfl, by decide +kernel, by decide +kernel⟩
theorem sc_stops_in : FnScope N_stops_in [("line" : Str)] (defScope st_stops_in) := ⟨rfl, rfl, rfl, by decide +kernel, rfl, by decide +kernel, by decide +kernel⟩
theorem sc_WrongRow___init__ : FnScope N_WrongRow___init__ [("self" : Str), ("index" : Str)] (defScope st_WrongRow___init__) := ⟨rfl, rfl, rfl, by decide +kernel, rfl, by decide +kernel, by decide +kernel⟩
theorem sc_is_integer : FnScope N_is_integer [("value" : Str)] (defScope st_is_integer) := ⟨rfl, rfl, rfl, by decide +kernel, rfl, by decide +kernel, by decide +kernel⟩
theorem sc_is_haul : FnScope N_is_haul [("value" : Str), ("stops" : Str)] (defScope st_is_haul) := ⟨rfl, rfl, rfl, by decide +kernel, rfl, by decide +kernel, by decide +kernel⟩
theorem sc_is_within : FnScope N_is_within [("value" : Str), ("low" : Str), ("high" : Str)] (defScope st_is_within) := ⟨rfl, rfl, rfl, by decide +kernel, rfl, by decide +kernel, by decide +kernel⟩
theorem sc_is_price : FnScope N_is_price [("value" : Str)] (defScope st_is_price) := ⟨rfl, rfl, rfl, by decide +kernel, rfl, by decide +kernel, by decide +kernel⟩
theorem sc_is_range : FnScope N_is_range [("value" : Str), ("stops" : Str)] (defScope st_is_range) := ⟨rfl, rfl, rfl, by decide +kernel, rfl, by decide +kernel, by decide +kernel⟩
theorem sc_range_in : FnScope N_range_in [("line" : Str), ("stops" : Str)] (defScope st_range_in) := ⟨rfl, rfl, rfl, by decide +kernel, rfl, by decide +kernel, by decide +kernel⟩
theorem sc_check_stops : FnScope N_check_stops [("stops" : Str)] (defScope st_check_stops) := ⟨rfl, rfl, rfl, by decide +kernel, rfl, by decide +kernel, by decide +kernel⟩
theorem sc_Bounds___init__ : FnScope N_Bounds___init__ [("self" : Str), ("stops" : Str), ("ranges" : Str)] (defScope st_Bounds___init__) := ⟨rfl, rfl, rfl, by decide +kernel, rfl, by decide +kernel, by decide +kernel⟩
theorem sc_Bounds_read : FnScope N_Bounds_read [("cls" : Str), ("text" : Str)] (defScope st_Bounds_read) := ⟨rfl, rfl, rfl, by decide +kernel, rfl, by decide +kernel, by decide +kernel⟩
theorem sc_bounds_in : FnScope N_bounds_in [("text" : Str)] (defScope st_bounds_in) := ⟨rfl, rfl, rfl, by decide +kernel, rfl, by decide +kernel, by decide +kernel⟩
theorem sc_Bounds_stops : FnScope N_Bounds_stops [("self" : Str)] (defScope st_Bounds_stops) := ⟨rfl, rfl, rfl, by decide +kernel, rfl, by decide +kernel, by decide +kernel⟩
theorem sc_Bounds_ranges : FnScope N_Bounds_ranges [("self" : Str)] (defScope st_Bounds_ranges) := ⟨rfl, rfl, rfl, by decide +kernel, rfl, by decide +kernel, by decide +kernel⟩
theorem sc_hauls_of : FnScope N_hauls_of [("stops" : Str)] (defScope st_hauls_of) := ⟨rfl, rfl, rfl, by decide +kernel, rfl, by decide +kernel, by decide +kernel⟩
theorem sc_Bounds_leasts : FnScope N_Bounds_leasts [("self" : Str)] (defScope st_Bounds_leasts) := ⟨rfl, rfl, rfl, by decide +kernel, rfl, by decide +kernel, by decide +kernel⟩
theorem sc_Bounds_greatests : FnScope N_Bounds_greatests [("self" : Str)] (defScope st_Bounds_greatests) := ⟨rfl, rfl, rfl, by decide +kernel, rfl, by decide +kernel, by decide +kernel⟩
theorem sc_Question___init__ : FnScope N_Question___init__ [("self" : Str), ("bounds" : Str), ("rules" : Str)] (defScope st_Question___init__) := ⟨rfl, rfl, rfl, by decide +kernel, rfl, by decide +kernel, by decide +kernel⟩
theorem sc_question_in : FnScope N_question_in [("claim" : Str)] (defScope st_question_in) := ⟨rfl, rfl, rfl, by decide +kernel, rfl, by decide +kernel, by decide +kernel⟩
theorem sc_are_prices : FnScope N_are_prices [("value" : Str), ("stops" : Str)] (defScope st_are_prices) := ⟨rfl, rfl, rfl, by decide +kernel, rfl, by decide +kernel, by decide +kernel⟩
theorem sc_costs_in : FnScope N_costs_in [("prices" : Str)] (defScope st_costs_in) := ⟨rfl, rfl, rfl, by decide +kernel, rfl, by decide +kernel, by decide +kernel⟩
theorem sc_lies_within : FnScope N_lies_within [("one" : Str), ("other" : Str)] (defScope st_lies_within) := ⟨rfl, rfl, rfl, by decide +kernel, rfl, by decide +kernel, by decide +kernel⟩
theorem sc_triples_of : FnScope N_triples_of [("stops" : Str)] (defScope st_triples_of) := ⟨rfl, rfl, rfl, by decide +kernel, rfl, by decide +kernel, by decide +kernel⟩
theorem sc_break_of : FnScope N_break_of [("stops" : Str), ("costs" : Str), ("rules" : Str)] (defScope st_break_of) := ⟨rfl, rfl, rfl, by decide +kernel, rfl, by decide +kernel, by decide +kernel⟩
theorem sc_is_fitting : FnScope N_is_fitting [("question" : Str), ("value" : Str)] (defScope st_is_fitting) := ⟨rfl, rfl, rfl, by decide +kernel, rfl, by decide +kernel, by decide +kernel⟩
theorem sc_fits_shown : FnScope N_fits_shown [("question" : Str), ("claim" : Str), ("value" : Str)] (defScope st_fits_shown) := ⟨rfl, rfl, rfl, by decide +kernel, rfl, by decide +kernel, by decide +kernel⟩
theorem sc_is_cover : FnScope N_is_cover [("question" : Str), ("haul" : Str), ("value" : Str)] (defScope st_is_cover) := ⟨rfl, rfl, rfl, by decide +kernel, rfl, by decide +kernel, by decide +kernel⟩
theorem sc_cost_of : FnScope N_cost_of [("question" : Str), ("haul" : Str), ("value" : Str)] (defScope st_cost_of) := ⟨rfl, rfl, rfl, by decide +kernel, rfl, by decide +kernel, by decide +kernel⟩
theorem sc_none_shown : FnScope N_none_shown [("question" : Str), ("claim" : Str), ("value" : Str)] (defScope st_none_shown) := ⟨rfl, rfl, rfl, by decide +kernel, rfl, by decide +kernel, by decide +kernel⟩
theorem sc_most_shown : FnScope N_most_shown [("question" : Str), ("claim" : Str), ("value" : Str)] (defScope st_most_shown) := ⟨rfl, rfl, rfl, by decide +kernel, rfl, by decide +kernel, by decide +kernel⟩
theorem sc_is_beside : FnScope N_is_beside [("question" : Str), ("haul" : Str), ("other" : Str)] (defScope st_is_beside) := ⟨rfl, rfl, rfl, by decide +kernel, rfl, by decide +kernel, by decide +kernel⟩
theorem sc_stretch_cost : FnScope N_stretch_cost [("question" : Str), ("begin" : Str), ("end" : Str), ("value" : Str)] (defScope st_stretch_cost) := ⟨rfl, rfl, rfl, by decide +kernel, rfl, by decide +kernel, by decide +kernel⟩
theorem sc_shows_least : FnScope N_shows_least [("question" : Str), ("haul" : Str), ("price" : Str), ("value" : Str)] (defScope st_shows_least) := ⟨rfl, rfl, rfl, by decide +kernel, rfl, by decide +kernel, by decide +kernel⟩
theorem sc_least_shown : FnScope N_least_shown [("question" : Str), ("claim" : Str), ("value" : Str)] (defScope st_least_shown) := ⟨rfl, rfl, rfl, by decide +kernel, rfl, by decide +kernel, by decide +kernel⟩
theorem sc_can_shown : FnScope N_can_shown [("question" : Str), ("claim" : Str), ("value" : Str)] (defScope st_can_shown) := ⟨rfl, rfl, rfl, by decide +kernel, rfl, by decide +kernel, by decide +kernel⟩
theorem sc_lowest_shown : FnScope N_lowest_shown [("question" : Str), ("claim" : Str), ("value" : Str)] (defScope st_lowest_shown) := ⟨rfl, rfl, rfl, by decide +kernel, rfl, by decide +kernel, by decide +kernel⟩
theorem sc_no_lowest_shown : FnScope N_no_lowest_shown [("question" : Str), ("claim" : Str), ("value" : Str)] (defScope st_no_lowest_shown) := ⟨rfl, rfl, rfl, by decide +kernel, rfl, by decide +kernel, by decide +kernel⟩
theorem sc_accepts : FnScope N_accepts [("claim" : Str), ("certificate" : Str)] (defScope st_accepts) := ⟨rfl, rfl, rfl, by decide +kernel, rfl, by decide +kernel, by decide +kernel⟩
theorem sc__law_draw : FnScope N__law_draw [("_law_well_here" : Str), ("_law_many" : Str)] (defScope st__law_draw) := ⟨rfl, rfl, rfl, by decide +kernel, rfl, by decide +kernel, by decide +kernel⟩
theorem sc__law_pick : FnScope N__law_pick [("_law_well_here" : Str), ("_law_menu_here" : Str)] (defScope st__law_pick) := ⟨rfl, rfl, rfl, by decide +kernel, rfl, by decide +kernel, by decide +kernel⟩
theorem sc_check_rules : FnScope N_check_rules [("rules" : Str)] (defScope st_check_rules) := ⟨rfl, rfl, rfl, by decide +kernel, rfl, by decide +kernel, by decide +kernel⟩
theorem sc_Ledger___init__ : FnScope N_Ledger___init__ [("self" : Str), ("stops" : Str), ("rules" : Str)] (defScope st_Ledger___init__) := ⟨rfl, rfl, rfl, by decide +kernel, rfl, by decide +kernel, by decide +kernel⟩
theorem sc__law_text_like : FnScope N__law_text_like [("_law_well_here" : Str)] (defScope st__law_text_like) := ⟨rfl, rfl, rfl, by decide +kernel, rfl, by decide +kernel, by decide +kernel⟩
theorem sc__law_wrong : FnScope N__law_wrong [("_law_well_here" : Str), ("_law_mine" : Str), ("_law_paper" : Str)] (defScope st__law_wrong) := ⟨rfl, rfl, rfl, by decide +kernel, rfl, by decide +kernel, by decide +kernel⟩
theorem sc__law_right : FnScope N__law_right [("_law_well_here" : Str)] (defScope st__law_right) := ⟨rfl, rfl, rfl, by decide +kernel, rfl, by decide +kernel, by decide +kernel⟩
theorem sc__law_well : FnScope N__law_well [("_law_script" : Str), ("_law_k" : Str)] (defScope st__law_well) := ⟨rfl, rfl, rfl, by decide +kernel, rfl, by decide +kernel, by decide +kernel⟩
theorem sc_law : FnScope N_law [("_law_script" : Str)] (defScope st_law) := ⟨rfl, rfl, rfl, by decide +kernel, rfl, by decide +kernel, by decide +kernel⟩
section
variable {P : Program} {w : World} {K : PySem.W.Frag} {h base : Heap} {mg : Str → Option Value}
theorem ok__law_menu (kx : K.In h) (G : h.Ns mainGlobals mg) (c : SaysMT fa fm fn ts w K) : FnK P w K mg base (DE K) 1 0 ((.g "_law_menu" : Loc3).at_ K) [] c__law_menu := by
  obtain ⟨fd, F⟩ := c.d 0 (d := d__law_menu) rfl
  exact fnk_of (fin := endE) F sc__law_menu rfl (F.bindsN fun _ _ _ _ _ _ us hl => match us, hl with | [], _ => rfl) .nil (fun _ _ => .nil) finE fun cdv A outer s H E hr =>
    (ss_cons (ss_setT (tgs_cons (j := 0) (tgs_cons (j := 1) tgs_nil)) rfl (pg_tup rfl (pgs_cons (pgN 0 sc__law_menu.nd) (pgs_cons (pgN 1 sc__law_menu.nd) pgs_nil))) (se_tup (sl_cons se_str (sl_cons se_str sl_nil)))) (ss_cons (ss_own (i := 2) sc__law_menu.nd rfl (by first | exact Or.inl rfl | exact Or.inr rfl) (so_lst (sl_cons (se_tup (sl_cons (se_tup (sl_cons se_str (sl_cons (vE 0) (sl_cons se_str sl_nil)))) (sl_cons (se_tup (sl_cons (se_tup (sl_cons se_int (sl_cons se_int sl_nil))) (sl_cons (se_tup (sl_cons se_int sl_nil)) sl_nil))) sl_nil))) (sl_cons (se_tup (sl_cons (se_tup (sl_cons se_str (sl_cons (vE 1) (sl_cons se_str sl_nil)))) (sl_cons (se_tup (sl_cons (se_tup (sl_cons se_int (sl_cons se_int sl_nil))) (sl_cons (se_tup (sl_cons (se_tup (sl_cons se_int (sl_cons se_int sl_nil))) (sl_cons (se_tup (sl_cons se_int (sl_cons se_int sl_nil))) sl_nil))) sl_nil))) sl_nil))) sl_nil)))) (ss_cons (ss_app (i := 2) rfl (by first | exact Or.inl rfl | exact Or.inr (Or.inl rfl)) (se_tup (sl_cons (se_tup (sl_cons se_str (sl_cons (vE 0) (sl_cons se_str (sl_cons (se_tup (sl_cons se_int (sl_cons se_int sl_nil))) (sl_cons se_int sl_nil)))))) (sl_cons (se_tup (sl_cons (se_tup (sl_cons se_int (sl_cons se_int sl_nil))) sl_nil)) sl_nil)))) (ss_cons (ss_app (i := 2) rfl (by first | exact Or.inl rfl | exact Or.inr (Or.inl rfl)) (se_tup (sl_cons (se_tup (sl_cons se_str (sl_cons (vE 0) (sl_cons se_str (sl_cons (se_tup (sl_cons se_int (sl_cons se_int sl_nil))) (sl_cons se_int sl_nil)))))) (sl_cons (se_tup (sl_cons (se_tup (sl_cons se_int (sl_cons se_int sl_nil))) (sl_cons (se_tup sl_nil) (sl_cons (se_tup (sl_cons (se_tup (sl_cons se_int (sl_cons se_int sl_nil))) sl_nil)) sl_nil)))) sl_nil)))) (ss_cons (ss_app (i := 2) rfl (by first | exact Or.inl rfl | exact Or.inr (Or.inl rfl)) (se_tup (sl_cons (se_tup (sl_cons se_str (sl_cons (vE 0) (sl_cons se_str (sl_cons (se_tup (sl_cons se_int (sl_cons se_int sl_nil))) (sl_cons se_int sl_nil)))))) (sl_cons (se_tup (sl_cons (se_tup (sl_cons se_int (sl_cons se_int sl_nil))) (sl_cons (se_tup (sl_cons se_int sl_nil)) sl_nil))) sl_nil)))) (ss_cons (ss_set (i := 3) sc__law_menu.nd rfl (by first | exact Or.inl rfl | exact Or.inr rfl) (se_tup (sl_cons (se_tup sl_nil) (sl_cons (se_tup (sl_cons (se_tup (sl_cons se_int (sl_cons se_int sl_nil))) (sl_cons (se_tup sl_nil) (sl_cons (se_tup sl_nil) sl_nil)))) (sl_cons (se_tup (sl_cons (se_tup (sl_cons se_int (sl_cons se_int sl_nil))) (sl_cons (se_tup sl_nil) (sl_cons (se_tup sl_nil) sl_nil)))) sl_nil))))) (ss_cons (ss_app (i := 2) rfl (by first | exact Or.inl rfl | exact Or.inr (Or.inl rfl)) (se_tup (sl_cons (se_tup (sl_cons se_str (sl_cons se_str (sl_cons se_str sl_nil)))) (sl_cons (se_tup (sl_cons (se_tup (sl_cons (se_tup (sl_cons se_int (sl_cons se_int sl_nil))) (sl_cons (se_tup (sl_cons se_int sl_nil)) sl_nil))) (sl_cons (vE 3) sl_nil))) sl_nil)))) (ss_cons (ss_app (i := 2) rfl (by first | exact Or.inl rfl | exact Or.inr (Or.inl rfl)) (se_tup (sl_cons (se_tup (sl_cons se_str (sl_cons (vE 0) (sl_cons se_str sl_nil)))) (sl_cons (se_tup (sl_cons se_int (sl_cons se_int (sl_cons se_int (sl_cons (se_tup (sl_cons (se_tup (sl_cons se_int (sl_cons se_int sl_nil))) (sl_cons (se_tup (sl_cons se_int sl_nil)) sl_nil))) (sl_cons (se_tup (sl_cons (se_tup (sl_cons se_int (sl_cons se_int sl_nil))) (sl_cons (se_tup (sl_cons se_int sl_nil)) sl_nil))) (sl_cons (se_tup (sl_cons (se_tup (sl_cons se_int (sl_cons se_int sl_nil))) (sl_cons (se_tup sl_nil) (sl_cons (se_tup sl_nil) sl_nil)))) sl_nil))))))) sl_nil)))) (sss_share (i := 2) (ss_one (ss_ret DE.ok (vE 2))))))))))))
theorem ok_is_rules (kx : K.In h) (G : h.Ns mainGlobals mg) (c : SaysMT fa fm fn ts w K) : FnK P w K mg base (DE K) 1 1 ((.g "is_rules" : Loc3).at_ K) [] c_is_rules := by
  obtain ⟨fd, F⟩ := c.d 1 (d := d_is_rules) rfl
  exact fnk_of (fin := endE) F sc_is_rules rfl (F.bindsN fun _ _ _ _ _ _ us hl => match us, hl with | [_], _ => rfl) .nil (fun _ _ => .nil) finE fun cdv A outer s H E hr =>
    (ss_one (ss_ret DE.ok (se_and (se_isi (isK_T tyT_str (ics_cons ⟨clsTB_ok (c.b 2 rfl), of_decide_eq_true (c.b 5 rfl)⟩ (ics_cons ⟨clsTB_ok (c.b 0 rfl), of_decide_eq_true (c.b 4 rfl)⟩ ics_nil))) (vB 0) (pe_tyN (n := "str") rfl (He.free_ok kx G (x := "str") (c.a 4 rfl)) (by decide +kernel)) (.ty "str") rfl (He.free_ok kx G (x := "isinstance") (c.a 2 rfl))) (se_one (s_cmp DE.ok op2_in (vB 0) (SE.b (se_globT (ws := [("both" : Str), ("long" : Str), ("parts" : Str)]) rfl (He.glo_ok kx G (x := "RULES") (c.a 6 rfl)) (c.b 6 rfl))) rfl)))))
theorem xn_InvalidText (kx : K.In h) (G : h.Ns mainGlobals mg) (c : SaysMT fa fm fn ts w K) : XnK P w K mg base "InvalidText" "given" (He.ma K (He.ga K "InvalidText") "__init__") := by
  obtain ⟨fd, F⟩ := c.d 2 (d := d_InvalidText___init__) rfl
  exact xnk_of (xcB_ok (c.b 7 rfl)) F sc_InvalidText___init__ (F.bindsN fun _ _ _ _ _ _ us hl => match us, hl with | [_, _], _ => rfl) (by first | exact Or.inl rfl | exact Or.inr (Or.inl rfl)) (by first | exact Or.inl rfl | exact Or.inr (Or.inl rfl))
theorem ok_number_in (kx : K.In h) (G : h.Ns mainGlobals mg) (c : SaysMT fa fm fn ts w K) : FnK P w K mg base (DE K) 1 1 ((.g "number_in" : Loc3).at_ K) [] c_number_in := by
  obtain ⟨fd, F⟩ := c.d 3 (d := d_number_in) rfl
  exact fnk_of (fin := endE) F sc_number_in rfl (F.bindsN fun _ _ _ _ _ _ us hl => match us, hl with | [_], _ => rfl) .nil (fun _ _ => .nil) finE fun cdv A outer s H E hr =>
    (ss_cons (ss_if (st_w (sw_or (st_cmp (op2_eq hr.units) (vB 0) (SE.b se_str) rfl) (sw_or (st_not (st_val (s_callB DE.ok (call_allS rfl) rfl (He.free_ok kx G (x := "all") (c.a 10 rfl)) (by decide +kernel) (slb_cons (SE.b (SO.e (so_lc rfl sc_number_in.nd (SI.any (si_txt (vE 0))) (own := [(("sign" : Str), 1)]) (blkOk_by (by kernel_rfl)) (tg_n (j := 1)) (by decide) (fun s0 H0 C0 cl0 fp0 => (pgN 1 sc_number_in.nd)) (fun s0 H0 C0 cl0 fp0 => sts_nil) (fun s0 H0 C0 cl0 fp0 => (s_cmp DE.ok op2_inS (vB 1) (SE.b (se_globS rfl (He.str_ok kx G (x := "DIGITS") (z := "0123456789") (c.a 9 rfl)))) rfl))))) slb_nil)))) (sw_or1 (st_w (sw_and (st_cmp (op2_eq hr.units) (SE.b (s_ix (u1 hr) (vB 0) (SE.b se_int))) (SE.b se_str) rfl) (sw_and1 (st_cmp (op2_ne hr.units) (vB 0) (SE.b se_str) rfl)))))))) (ss_one (ss_ret DE.ok se_non)) ss_nil) (ss_one (ss_ret DE.ok (s_callTy DE.ok call_intT rfl (He.free_ok kx G (x := "int") (c.a 11 rfl)) (by decide +kernel) (slb_cons (vB 0) slb_nil)))))
theorem ok_stops_in (kx : K.In h) (G : h.Ns mainGlobals mg) (c : SaysMT fa fm fn ts w K) : FnK P w K mg base (DE K) 2 1 ((.g "stops_in" : Loc3).at_ K) [] c_stops_in := by
  obtain ⟨fd, F⟩ := c.d 4 (d := d_stops_in) rfl
  exact fnk_of (fin := endE) F sc_stops_in rfl (F.bindsN fun _ _ _ _ _ _ us hl => match us, hl with | [_], _ => rfl) .nil (fun _ _ => .nil) finE fun cdv A outer s H E hr =>
    (ss_cons (ss_set (i := 1) sc_stops_in.nd rfl (by first | exact Or.inl rfl | exact Or.inr rfl) (se_split (vB 0) (SE.b se_str))) (ss_cons (ss_set (i := 2) sc_stops_in.nd rfl (by first | exact Or.inl rfl | exact Or.inr rfl) (s_if DE.ok (st_w (sw_and (st_cmp (op2_eq hr.units) (SE.b (s_callB DE.ok call_lenS rfl (He.free_ok kx G (x := "len") (c.a 3 rfl)) (by decide +kernel) (slb_cons (vB 1) slb_nil))) (SE.b se_int) rfl) (sw_and1 (st_cmp (op2_eq hr.units) (SE.b (s_ix (u1 hr) (vB 1) (SE.b se_int))) (SE.b se_str) rfl)))) (s_call DE.ok (ok_number_in kx G c) (hr.mono (by decide)) pasX rfl (He.glo_ok kx G (x := "number_in") (c.a 12 rfl)) (sl_cons (s_ix (u1 hr) (vB 1) (SE.b se_int)) sl_nil)) se_non)) (ss_one (ss_ret DE.ok (s_if DE.ok (st_w (sw_and (st_cmp op2_notN (vB 2) (SE.b se_non) rfl) (sw_and1 (st_ch op2_le op2_le (SE.b se_int) (vB 2) (SE.b (se_globI rfl (He.int_ok kx G (x := "MOST_STOPS") (i := 10) (c.a 13 rfl)))))))) (vE 2) se_non)))))
theorem xn_WrongRow (kx : K.In h) (G : h.Ns mainGlobals mg) (c : SaysMT fa fm fn ts w K) : XnK P w K mg base "WrongRow" "index" (He.ma K (He.ga K "WrongRow") "__init__") := by
  obtain ⟨fd, F⟩ := c.d 5 (d := d_WrongRow___init__) rfl
  exact xnk_of (xcB_ok (c.b 8 rfl)) F sc_WrongRow___init__ (F.bindsN fun _ _ _ _ _ _ us hl => match us, hl with | [_, _], _ => rfl) (by first | exact Or.inl rfl | exact Or.inr (Or.inl rfl)) (by first | exact Or.inl rfl | exact Or.inr (Or.inl rfl))
theorem ok_is_integer (kx : K.In h) (G : h.Ns mainGlobals mg) (c : SaysMT fa fm fn ts w K) : FnK P w K mg base (DE K) 1 1 ((.g "is_integer" : Loc3).at_ K) [] c_is_integer := by
  obtain ⟨fd, F⟩ := c.d 6 (d := d_is_integer) rfl
  exact fnk_of (fin := endE) F sc_is_integer rfl (F.bindsN fun _ _ _ _ _ _ us hl => match us, hl with | [_], _ => rfl) .nil (fun _ _ => .nil) finE fun cdv A outer s H E hr =>
    (ss_one (ss_ret DE.ok (se_and (se_isi (isK_T tyT_int (ics_cons ⟨clsTB_ok (c.b 2 rfl), of_decide_eq_true (c.b 10 rfl)⟩ (ics_cons ⟨clsTB_ok (c.b 0 rfl), of_decide_eq_true (c.b 9 rfl)⟩ ics_nil))) (vB 0) (pe_tyN (n := "int") rfl (He.free_ok kx G (x := "int") (c.a 11 rfl)) (by decide +kernel)) (.ty "int") rfl (He.free_ok kx G (x := "isinstance") (c.a 2 rfl))) (se_one (se_not (se_isi (isK_T tyT_bool (ics_cons ⟨clsTB_ok (c.b 2 rfl), of_decide_eq_true (c.b 12 rfl)⟩ (ics_cons ⟨clsTB_ok (c.b 0 rfl), of_decide_eq_true (c.b 11 rfl)⟩ ics_nil))) (vB 0) (pe_tyN (n := "bool") rfl (He.free_ok kx G (x := "bool") (c.a 17 rfl)) (by decide +kernel)) (.ty "bool") rfl (He.free_ok kx G (x := "isinstance") (c.a 2 rfl))))))))
theorem ok_is_haul (kx : K.In h) (G : h.Ns mainGlobals mg) (c : SaysMT fa fm fn ts w K) : FnK P w K mg base (DE K) 2 2 ((.g "is_haul" : Loc3).at_ K) [] c_is_haul := by
  obtain ⟨fd, F⟩ := c.d 7 (d := d_is_haul) rfl
  exact fnk_of (fin := endE) F sc_is_haul rfl (F.bindsN fun _ _ _ _ _ _ us hl => match us, hl with | [_, _], _ => rfl) .nil (fun _ _ => .nil) finE fun cdv A outer s H E hr =>
    (ss_cons (ss_if (st_w (sw_or (st_not (st_val (se_isi (isK_T tyT_tuple (ics_cons ⟨clsTB_ok (c.b 2 rfl), of_decide_eq_true (c.b 3 rfl)⟩ (ics_cons ⟨clsTB_ok (c.b 0 rfl), of_decide_eq_true (c.b 1 rfl)⟩ ics_nil))) (vB 0) (pe_tyN (n := "tuple") rfl (He.free_ok kx G (x := "tuple") (c.a 1 rfl)) (by decide +kernel)) (.ty "tuple") rfl (He.free_ok kx G (x := "isinstance") (c.a 2 rfl))))) (sw_or (st_cmp (op2_ne hr.units) (SE.b (s_callB DE.ok call_lenS rfl (He.free_ok kx G (x := "len") (c.a 3 rfl)) (by decide +kernel) (slb_cons (vB 0) slb_nil))) (SE.b se_int) rfl) (sw_or1 (st_not (st_val (s_callB DE.ok (call_allS rfl) rfl (He.free_ok kx G (x := "all") (c.a 10 rfl)) (by decide +kernel) (slb_cons (SE.b (SO.e (so_lc rfl sc_is_haul.nd (SI.any (si_seq (vE 0))) (own := [(("stop" : Str), 2)]) (blkOk_by (by kernel_rfl)) (tg_n (j := 2)) (by decide) (fun s0 H0 C0 cl0 fp0 => (pgN 2 sc_is_haul.nd)) (fun s0 H0 C0 cl0 fp0 => sts_nil) (fun s0 H0 C0 cl0 fp0 => (s_call DE.ok (ok_is_integer kx G c) (hr.mono (by decide)) pas_no rfl (He.glo_ok kx G (x := "is_integer") (c.a 18 rfl)) (sl_cons (vE 2) sl_nil)))))) slb_nil)))))))) (ss_one (ss_ret DE.ok se_bl)) ss_nil) (ss_one (ss_ret DE.ok (se_ch3 op2_le (op2_lt hr.units0) (op2_lt hr.units0) (SE.b se_int) (SE.b (s_ix (u1 hr) (vB 0) (SE.b se_int))) (SE.b (s_ix (u1 hr) (vB 0) (SE.b se_int))) (vB 1)))))
theorem ok_is_within (kx : K.In h) (G : h.Ns mainGlobals mg) (c : SaysMT fa fm fn ts w K) : FnK P w K mg base (DE K) 2 3 ((.g "is_within" : Loc3).at_ K) [] c_is_within := by
  obtain ⟨fd, F⟩ := c.d 8 (d := d_is_within) rfl
  exact fnk_of (fin := endE) F sc_is_within rfl (F.bindsN fun _ _ _ _ _ _ us hl => match us, hl with | [_, _, _], _ => rfl) .nil (fun _ _ => .nil) finE fun cdv A outer s H E hr =>
    (ss_one (ss_ret DE.ok (se_and (s_call DE.ok (ok_is_integer kx G c) (hr.mono (by decide)) pasX rfl (He.glo_ok kx G (x := "is_integer") (c.a 18 rfl)) (sl_cons (vE 0) sl_nil)) (se_one (se_ch op2_le op2_le (vB 1) (vB 0) (vB 2))))))
theorem ok_is_price (kx : K.In h) (G : h.Ns mainGlobals mg) (c : SaysMT fa fm fn ts w K) : FnK P w K mg base (DE K) 3 1 ((.g "is_price" : Loc3).at_ K) [] c_is_price := by
  obtain ⟨fd, F⟩ := c.d 9 (d := d_is_price) rfl
  exact fnk_of (fin := endE) F sc_is_price rfl (F.bindsN fun _ _ _ _ _ _ us hl => match us, hl with | [_], _ => rfl) .nil (fun _ _ => .nil) finE fun cdv A outer s H E hr =>
    (ss_one (ss_ret DE.ok (s_call DE.ok (ok_is_within kx G c) (hr.mono (by decide)) pasX rfl (He.glo_ok kx G (x := "is_within") (c.a 21 rfl)) (sl_cons (vE 0) (sl_cons se_int (sl_cons (se_globI rfl (He.int_ok kx G (x := "MOST_PRICE") (i := 1000000000000) (c.a 20 rfl))) sl_nil))))))
theorem ok_is_range (kx : K.In h) (G : h.Ns mainGlobals mg) (c : SaysMT fa fm fn ts w K) : FnK P w K mg base (DE K) 4 2 ((.g "is_range" : Loc3).at_ K) [] c_is_range := by
  obtain ⟨fd, F⟩ := c.d 10 (d := d_is_range) rfl
  exact fnk_of (fin := endE) F sc_is_range rfl (F.bindsN fun _ _ _ _ _ _ us hl => match us, hl with | [_, _], _ => rfl) .nil (fun _ _ => .nil) finE fun cdv A outer s H E hr =>
    (ss_cons (ss_if (st_w (sw_or (st_not (st_val (se_isi (isK_T tyT_tuple (ics_cons ⟨clsTB_ok (c.b 2 rfl), of_decide_eq_true (c.b 3 rfl)⟩ (ics_cons ⟨clsTB_ok (c.b 0 rfl), of_decide_eq_true (c.b 1 rfl)⟩ ics_nil))) (vB 0) (pe_tyN (n := "tuple") rfl (He.free_ok kx G (x := "tuple") (c.a 1 rfl)) (by decide +kernel)) (.ty "tuple") rfl (He.free_ok kx G (x := "isinstance") (c.a 2 rfl))))) (sw_or (st_cmp (op2_ne hr.units) (SE.b (s_callB DE.ok call_lenS rfl (He.free_ok kx G (x := "len") (c.a 3 rfl)) (by decide +kernel) (slb_cons (vB 0) slb_nil))) (SE.b se_int) rfl) (sw_or (st_not (st_val (s_call DE.ok (ok_is_haul kx G c) (hr.mono (by decide)) pasX rfl (He.glo_ok kx G (x := "is_haul") (c.a 19 rfl)) (sl_cons (s_ix (u1 hr) (vB 0) (SE.b se_int)) (sl_cons (vE 1) sl_nil))))) (sw_or1 (st_not (st_val (s_call DE.ok (ok_is_price kx G c) (hr.mono (by decide)) pasX rfl (He.glo_ok kx G (x := "is_price") (c.a 22 rfl)) (sl_cons (s_ix (u1 hr) (vB 0) (SE.b se_int)) sl_nil))))))))) (ss_one (ss_ret DE.ok se_bl)) ss_nil) (ss_one (ss_ret DE.ok (se_or (s_cmp DE.ok op2_isN (SE.b (s_ix (u1 hr) (vB 0) (SE.b se_int))) (SE.b se_non) rfl) (se_one (se_and (s_call DE.ok (ok_is_price kx G c) (hr.mono (by decide)) pasX rfl (He.glo_ok kx G (x := "is_price") (c.a 22 rfl)) (sl_cons (s_ix (u1 hr) (vB 0) (SE.b se_int)) sl_nil)) (se_one (s_cmp DE.ok op2_le (SE.b (s_ix (u1 hr) (vB 0) (SE.b se_int))) (SE.b (s_ix (u1 hr) (vB 0) (SE.b se_int))) rfl))))))))
theorem ok_range_in (kx : K.In h) (G : h.Ns mainGlobals mg) (c : SaysMT fa fm fn ts w K) : FnK P w K mg base (DE K) 5 2 ((.g "range_in" : Loc3).at_ K) [] c_range_in := by
  obtain ⟨fd, F⟩ := c.d 11 (d := d_range_in) rfl
  exact fnk_of (fin := endE) F sc_range_in rfl (F.bindsN fun _ _ _ _ _ _ us hl => match us, hl with | [_, _], _ => rfl) .nil (fun _ _ => .nil) finE fun cdv A outer s H E hr =>
    (ss_cons (ss_set (i := 2) sc_range_in.nd rfl (by first | exact Or.inl rfl | exact Or.inr rfl) (se_split (vB 0) (SE.b se_str))) (ss_cons (ss_if (st_cmp (op2_ne hr.units) (SE.b (s_callB DE.ok call_lenS rfl (He.free_ok kx G (x := "len") (c.a 3 rfl)) (by decide +kernel) (slb_cons (vB 2) slb_nil))) (SE.b se_int) rfl) (ss_one (ss_ret DE.ok se_non)) ss_nil) (ss_cons (ss_lc (i := 3) rfl sc_range_in.nd rfl rfl rfl (SI.any (si_seq (vE 2))) (own := [(("word" : Str), 5)]) (blkOk_by (by kernel_rfl)) (tg_n (j := 5)) (by decide) (fun s0 H0 C0 cl0 fp0 => (pgN 5 sc_range_in.nd)) (fun s0 H0 C0 cl0 fp0 => sts_nil) (fun s0 H0 C0 cl0 fp0 => (s_call DE.ok (ok_number_in kx G c) (hr.mono (by decide)) pas_no rfl (He.glo_ok kx G (x := "number_in") (c.a 12 rfl)) (sl_cons (vE 5) sl_nil)))) (sss_share (i := 3) (ss_cons (ss_set (i := 4) sc_range_in.nd rfl (by first | exact Or.inl rfl | exact Or.inr rfl) (se_tup (sl_cons (se_tup (sl_cons (s_ix (u1 hr) (vB 3) (SE.b se_int)) (sl_cons (s_ix (u1 hr) (vB 3) (SE.b se_int)) sl_nil))) (sl_cons (s_ix (u1 hr) (vB 3) (SE.b se_int)) (sl_cons (s_ix (u1 hr) (vB 3) (SE.b se_int)) sl_nil))))) (ss_one (ss_ret DE.ok (s_if DE.ok (st_w (sw_and (st_val (s_call DE.ok (ok_is_range kx G c) (hr.mono (by decide)) pasX rfl (He.glo_ok kx G (x := "is_range") (c.a 23 rfl)) (sl_cons (vE 4) (sl_cons (vE 1) sl_nil)))) (sw_and1 (st_w (sw_or (st_cmp op2_notN (SE.b (s_ix (u1 hr) (vB 3) (SE.b se_int))) (SE.b se_non) rfl) (sw_or1 (st_cmp (op2_eq hr.units) (SE.b (s_ix (u1 hr) (vB 2) (SE.b se_int))) (SE.b se_str) rfl))))))) (vE 4) se_non))))))))
theorem ok_check_stops (kx : K.In h) (G : h.Ns mainGlobals mg) (c : SaysMT fa fm fn ts w K) : FnK P w K mg base (DE K) 3 1 ((.g "check_stops" : Loc3).at_ K) [] c_check_stops := by
  obtain ⟨fd, F⟩ := c.d 12 (d := d_check_stops) rfl
  exact fnk_of (fin := endE) F sc_check_stops rfl (F.bindsN fun _ _ _ _ _ _ us hl => match us, hl with | [_], _ => rfl) .nil (fun _ _ => .nil) finE fun cdv A outer s H E hr =>
    (ss_one (ss_if (st_not (st_val (s_call DE.ok (ok_is_within kx G c) (hr.mono (by decide)) pasX rfl (He.glo_ok kx G (x := "is_within") (c.a 21 rfl)) (sl_cons (vE 0) (sl_cons se_int (sl_cons (se_globI rfl (He.int_ok kx G (x := "MOST_STOPS") (i := 10) (c.a 13 rfl))) sl_nil)))))) (ss_one ss_never) ss_nil))
theorem okf_Bounds___init__ {fd : FuncData} (kx : K.In h) (G : h.Ns mainGlobals mg) (c : SaysMT fa fm fn ts w K) (F : FunD K d_Bounds___init__.name d_Bounds___init__.qual d_Bounds___init__.params d_Bounds___init__.body d_Bounds___init__.scope (d_Bounds___init__.dvs K) (d_Bounds___init__.kws K) (d_Bounds___init__.loc.at_ K) fd) : MP.FnOk P w K mg base (L2.CX P w) 5 (d_Bounds___init__.loc.at_ K) fd [("self" : Str), ("stops" : Str), ("ranges" : Str)] (spI K "Bounds" 2 c_Bounds___init__) :=
  fnoki_of F sc_Bounds___init__ rfl fun cdv A outer s H E hr =>
    (ss_cons (ss_expr (s_call DE.ok (ok_check_stops kx G c) (hr.mono (by decide)) pasX rfl (He.glo_ok kx G (x := "check_stops") (c.a 25 rfl)) (sl_cons (vE 1) sl_nil))) (ss_cons (ss_if (st_not (st_val (se_isi (isK_T tyT_tuple (ics_cons ⟨clsTB_ok (c.b 2 rfl), of_decide_eq_true (c.b 3 rfl)⟩ (ics_cons ⟨clsTB_ok (c.b 0 rfl), of_decide_eq_true (c.b 1 rfl)⟩ ics_nil))) (vB 2) (pe_tyN (n := "tuple") rfl (He.free_ok kx G (x := "tuple") (c.a 1 rfl)) (by decide +kernel)) (.ty "tuple") rfl (He.free_ok kx G (x := "isinstance") (c.a 2 rfl))))) (ss_one ss_never) ss_nil) (ss_cons (ss_for ownX rfl (si_enu (vE 2) rfl (He.free_ok kx G (x := "enumerate") (c.a 16 rfl))) (tg_t (tgs_cons (j := 3) (tgs_cons (j := 4) tgs_nil)) rfl) (pg_tup rfl (pgs_cons (pgN 3 sc_Bounds___init__.nd) (pgs_cons (pgN 4 sc_Bounds___init__.nd) pgs_nil))) (ss_one (ss_if (st_w (sw_or (st_not (st_val (s_call DE.ok (ok_is_range kx G c) (hr.mono (by decide)) pasX rfl (He.glo_ok kx G (x := "is_range") (c.a 23 rfl)) (sl_cons (vE 4) (sl_cons (vE 1) sl_nil))))) (sw_or1 (st_w (sw_and (st_cmp op2_gt (vB 3) (SE.b se_int) rfl) (sw_and1 (st_cmp (op2_geT hr.units0) (SE.b (s_ix (u1 hr) (SE.b (s_ix (u1 hr) (vB 2) (SE.b (s_bin DE.ok op2_sub (vB 3) (SE.b se_int))))) (SE.b se_int))) (SE.b (s_ix (u1 hr) (vB 4) (SE.b se_int))) rfl))))))) (ss_one ss_never) ss_nil))) (ss_one (ss_fld (i := 0) rfl (by first | exact Or.inl rfl | exact Or.inr (Or.inl rfl)) (se_tup (sl_cons (vE 1) (sl_cons (vE 2) sl_nil))) (He.cls_ok (x := "Bounds") (c.a 26 rfl)) (He.noat_ok (x := "Bounds") (f := "all") (c.a 27 rfl)))))))
theorem ok_Bounds___init__ (kx : K.In h) (G : h.Ns mainGlobals mg) (c : SaysMT fa fm fn ts w K) : InK P w K mg base 5 2 "Bounds" ((d_Bounds___init__.loc).at_ K) [] c_Bounds___init__ := by
  obtain ⟨fd, F⟩ := c.d 13 (d := d_Bounds___init__) rfl
  obtain ⟨ds, hv, hb⟩ := FunD.binds1 (ps := [("self" : Str), ("stops" : Str), ("ranges" : Str)]) F 3 1 (List.cons_ne_nil _ _) rfl (fun _ _ _ _ _ _ _ us its h1 h2 => match us, its, h1, h2 with | [_, _, _], [_], _, _ => ⟨_, rfl, rfl⟩)
  exact ⟨(He.mkr_ok (x := "Bounds") (c.a 72 rfl)), fd, _, _, ds, okf_Bounds___init__ kx G c F, hb, hv, fun _ _ => .nil⟩
theorem okd_Bounds___init__ (kx : K.In h) (G : h.Ns mainGlobals mg) (c : SaysMT fa fm fn ts w K) : InK P w K mg base 5 2 "Bounds" ((d_Bounds___init__.loc).at_ K) [.tup []] c_Bounds___init__ := by
  obtain ⟨fd, F⟩ := c.d 13 (d := d_Bounds___init__) rfl
  obtain ⟨ds, hv, hb⟩ := FunD.binds1 (ps := [("self" : Str), ("stops" : Str), ("ranges" : Str)]) F 2 0 (List.cons_ne_nil _ _) rfl (fun _ _ _ _ _ _ _ us its h1 h2 => match us, its, h1, h2 with | [_, _], [_], _, _ => ⟨_, rfl, rfl⟩)
  exact ⟨(He.mkr_ok (x := "Bounds") (c.a 72 rfl)), fd, _, _, ds, okf_Bounds___init__ kx G c F, hb, hv, fun _ _ => .cons (.tup (.inr ⟨rfl, dtupB_ok (c.b 20 rfl)⟩) .nil) .nil⟩
theorem ok_Bounds_read (kx : K.In h) (G : h.Ns mainGlobals mg) (c : SaysMT fa fm fn ts w K) : FnK P w K mg base (DE K) 7 2 ((.c "Bounds" "read" : Loc3).at_ K) [] c_Bounds_read := by
  obtain ⟨fd, F⟩ := c.d 14 (d := d_Bounds_read) rfl
  exact fnk_of (fin := endE) F sc_Bounds_read rfl (F.bindsN fun _ _ _ _ _ _ us hl => match us, hl with | [_, _], _ => rfl) .nil (fun _ _ => .nil) finE fun cdv A outer s H E hr =>
    (ss_cons (ss_if (st_not (st_val (se_isi (isK_T tyT_str (ics_cons ⟨clsTB_ok (c.b 2 rfl), of_decide_eq_true (c.b 5 rfl)⟩ (ics_cons ⟨clsTB_ok (c.b 0 rfl), of_decide_eq_true (c.b 4 rfl)⟩ ics_nil))) (vB 1) (pe_tyN (n := "str") rfl (He.free_ok kx G (x := "str") (c.a 4 rfl)) (by decide +kernel)) (.ty "str") rfl (He.free_ok kx G (x := "isinstance") (c.a 2 rfl))))) (ss_one (ss_raise rfl takesX (xn_InvalidText kx G c) (hr.mono (by decide)) rfl (He.glo_ok kx G (x := "InvalidText") (c.a 8 rfl)) (sl_cons (vE 1) sl_nil))) ss_nil) (ss_cons (ss_set (i := 2) sc_Bounds_read.nd rfl (by first | exact Or.inl rfl | exact Or.inr rfl) (se_split (vB 1) (SE.b se_str))) (ss_cons (ss_set (i := 3) sc_Bounds_read.nd rfl (by first | exact Or.inl rfl | exact Or.inr rfl) (s_call DE.ok (ok_stops_in kx G c) (hr.mono (by decide)) pasX rfl (He.glo_ok kx G (x := "stops_in") (c.a 14 rfl)) (sl_cons (s_ix (u1 hr) (vB 2) (SE.b se_int)) sl_nil))) (ss_cons (ss_if (st_cmp op2_isN (vB 3) (SE.b se_non) rfl) (ss_one (ss_raise rfl takesX (xn_WrongRow kx G c) (hr.mono (by decide)) rfl (He.glo_ok kx G (x := "WrongRow") (c.a 15 rfl)) (sl_cons se_int sl_nil))) ss_nil) (ss_cons (ss_own (i := 4) sc_Bounds_read.nd rfl (by first | exact Or.inl rfl | exact Or.inr rfl) (so_lst sl_nil)) (ss_cons (ss_for ownX rfl (si_enu (se_sl (vB 2) (sp_some se_int) sp_none) rfl (He.free_ok kx G (x := "enumerate") (c.a 16 rfl))) (tg_t (tgs_cons (j := 5) (tgs_cons (j := 6) tgs_nil)) rfl) (pg_tup rfl (pgs_cons (pgN 5 sc_Bounds_read.nd) (pgs_cons (pgN 6 sc_Bounds_read.nd) pgs_nil))) (ss_cons (ss_set (i := 7) sc_Bounds_read.nd rfl (by first | exact Or.inl rfl | exact Or.inr rfl) (s_call DE.ok (ok_range_in kx G c) (hr.mono (by decide)) pasX rfl (He.glo_ok kx G (x := "range_in") (c.a 24 rfl)) (sl_cons (vE 6) (sl_cons (vE 3) sl_nil)))) (ss_cons (ss_if (st_w (sw_or (st_cmp op2_isN (vB 7) (SE.b se_non) rfl) (sw_or1 (st_w (sw_and (st_cmp (op2_ne hr.units) (vB 4) (SE.b (SO.e (so_lst sl_nil))) rfl) (sw_and1 (st_cmp (op2_geT hr.units0) (SE.b (s_ix (u1 hr) (SE.b (s_ix (u1 hr) (vB 4) (SE.b (s_un DE.ok op1_neg (SE.b se_int))))) (SE.b se_int))) (SE.b (s_ix (u1 hr) (vB 7) (SE.b se_int))) rfl))))))) (ss_one (ss_raise rfl takesX (xn_WrongRow kx G c) (hr.mono (by decide)) rfl (He.glo_ok kx G (x := "WrongRow") (c.a 15 rfl)) (sl_cons (s_bin DE.ok op2_add (vB 5) (SE.b se_int)) sl_nil))) ss_nil) (ss_one (ss_app (i := 4) rfl (by first | exact Or.inl rfl | exact Or.inr (Or.inl rfl)) (vE 7)))))) (ss_one (ss_ret DE.ok (SO.e (so_cls (i := 0) (ok_Bounds___init__ kx G c) (hr.mono (by decide)) pasX rfl (by first | exact Or.inl rfl | exact Or.inr (Or.inl rfl)) (sl_cons (vE 3) (sl_cons (s_callTy DE.ok call_tupS rfl (He.free_ok kx G (x := "tuple") (c.a 1 rfl)) (by decide +kernel) (slb_cons (vB 4) slb_nil)) sl_nil))))))))))))
theorem ok_bounds_in (kx : K.In h) (G : h.Ns mainGlobals mg) (c : SaysMT fa fm fn ts w K) : FnK P w K mg base (DE K) 8 1 ((.g "bounds_in" : Loc3).at_ K) [] c_bounds_in := by
  obtain ⟨fd, F⟩ := c.d 15 (d := d_bounds_in) rfl
  exact fnk_of (fin := endE) F sc_bounds_in rfl (F.bindsN fun _ _ _ _ _ _ us hl => match us, hl with | [_], _ => rfl) .nil (fun _ _ => .nil) finE fun cdv A outer s H E hr =>
    (ss_one (ss_try2 (tbl := [(("InvalidText" : Str), true), (("WrongRow" : Str), true)]) rfl rfl ⟨rfl, rfl, .inl (He.glo_ok kx G (x := "InvalidText") (c.a 8 rfl))⟩ ⟨rfl, rfl, .inl (He.glo_ok kx G (x := "WrongRow") (c.a 15 rfl))⟩ takesX (exmT2_cons (c.b 16 rfl) (c.b 17 rfl) (exmT2_cons (c.b 14 rfl) (c.b 15 rfl) exmT2_nil)) (fun W1 pn xe tk po => (ss_one (ss_ret DE.ok (s_cmeth DE.ok (cmB_ok (C := "Bounds") (f := "read") (c.b 13 rfl)) (ok_Bounds_read kx G c) (hr.mono (by decide)) (fun σ => passAt tk σ) (pe_own (He.glo_ok kx G (x := "Bounds") (c.a 28 rfl))) (sl_cons (vE 0) sl_nil))))) (fun a oe pn => (ss_one (ss_ret DE.ok se_non)))))
theorem ok_Bounds_stops (kx : K.In h) (G : h.Ns mainGlobals mg) (c : SaysMT fa fm fn ts w K) : FnK P w K mg base (DE K) 1 1 ((.p "Bounds" "stops" : Loc3).at_ K) [] c_Bounds_stops := by
  obtain ⟨fd, F⟩ := c.d 16 (d := d_Bounds_stops) rfl
  exact fnk_of (fin := endE) F sc_Bounds_stops rfl (F.bindsN fun _ _ _ _ _ _ us hl => match us, hl with | [_], _ => rfl) .nil (fun _ _ => .nil) finE fun cdv A outer s H E hr =>
    (ss_one (ss_ret DE.ok (s_ix (u1 hr) (SE.b (s_attrB DE.ok (op1_fld (He.cls_ok (x := "Bounds") (c.a 26 rfl)) (He.noat_ok (x := "Bounds") (f := "all") (c.a 27 rfl))) (vB 0))) (SE.b se_int))))
theorem ok_Bounds_ranges (kx : K.In h) (G : h.Ns mainGlobals mg) (c : SaysMT fa fm fn ts w K) : FnK P w K mg base (DE K) 1 1 ((.p "Bounds" "ranges" : Loc3).at_ K) [] c_Bounds_ranges := by
  obtain ⟨fd, F⟩ := c.d 17 (d := d_Bounds_ranges) rfl
  exact fnk_of (fin := endE) F sc_Bounds_ranges rfl (F.bindsN fun _ _ _ _ _ _ us hl => match us, hl with | [_], _ => rfl) .nil (fun _ _ => .nil) finE fun cdv A outer s H E hr =>
    (ss_one (ss_ret DE.ok (s_ix (u1 hr) (SE.b (s_attrB DE.ok (op1_fld (He.cls_ok (x := "Bounds") (c.a 26 rfl)) (He.noat_ok (x := "Bounds") (f := "all") (c.a 27 rfl))) (vB 0))) (SE.b se_int))))
theorem ok_hauls_of (kx : K.In h) (G : h.Ns mainGlobals mg) (c : SaysMT fa fm fn ts w K) : FnK P w K mg base (DE K) 1 1 ((.g "hauls_of" : Loc3).at_ K) [] c_hauls_of := by
  obtain ⟨fd, F⟩ := c.d 18 (d := d_hauls_of) rfl
  exact fnk_of (fin := endE) F sc_hauls_of rfl (F.bindsN fun _ _ _ _ _ _ us hl => match us, hl with | [_], _ => rfl) .nil (fun _ _ => .nil) finE fun cdv A outer s H E hr =>
    (ss_cons (ss_set (i := 1) sc_hauls_of.nd rfl (by first | exact Or.inl rfl | exact Or.inr rfl) (SO.e (so_lst sl_nil))) (ss_cons (ss_for ownX rfl (si_rng1 (s_bin DE.ok op2_sub (vB 0) (SE.b se_int)) rfl (He.free_ok kx G (x := "range") (c.a 33 rfl))) (tg_n (j := 2)) (pgN 2 sc_hauls_of.nd) (ss_one (ss_set (i := 1) sc_hauls_of.nd rfl (by first | exact Or.inl rfl | exact Or.inr rfl) (s_bin DE.ok op2_add (vB 1) (SE.b (SO.e (so_lc rfl sc_hauls_of.nd (SI.any (si_rng2 (s_bin DE.ok op2_add (vB 2) (SE.b se_int)) (vE 0) rfl (He.free_ok kx G (x := "range") (c.a 33 rfl)))) (own := [(("end" : Str), 3)]) (blkOk_by (by kernel_rfl)) (tg_n (j := 3)) (by decide) (fun s0 H0 C0 cl0 fp0 => (pgN 3 sc_hauls_of.nd)) (fun s0 H0 C0 cl0 fp0 => sts_nil) (fun s0 H0 C0 cl0 fp0 => (se_tup (sl_cons (vE 2) (sl_cons (vE 3) sl_nil))))))))))) (ss_one (ss_ret DE.ok (vE 1)))))
theorem ok_Bounds_leasts (kx : K.In h) (G : h.Ns mainGlobals mg) (c : SaysMT fa fm fn ts w K) : FnK P w K mg base (DE K) 3 1 ((.m "Bounds" "leasts" : Loc3).at_ K) [] c_Bounds_leasts := by
  obtain ⟨fd, F⟩ := c.d 19 (d := d_Bounds_leasts) rfl
  exact fnk_of (fin := endE) F sc_Bounds_leasts rfl (F.bindsN fun _ _ _ _ _ _ us hl => match us, hl with | [_], _ => rfl) .nil (fun _ _ => .nil) finE fun cdv A outer s H E hr =>
    (ss_cons (ss_set (i := 1) sc_Bounds_leasts.nd rfl (by first | exact Or.inl rfl | exact Or.inr rfl) (SO.e (so_dcT (u1 hr) rfl sc_Bounds_leasts.nd (SI.any (si_seq (s_attr DE.ok (op1_prop (He.cls_ok (x := "Bounds") (c.a 26 rfl)) (propB_ok (C := "Bounds") (f := "ranges") (c.b 19 rfl)) (ok_Bounds_ranges kx G c) (hr.mono (by decide))) (vE 0)))) (own := [(("haul" : Str), 2), (("least" : Str), 3), (("greatest" : Str), 4)]) (blkOk_by (by kernel_rfl)) (tg_t (tgs_cons (j := 2) (tgs_cons (j := 3) (tgs_cons (j := 4) tgs_nil))) rfl) (by decide) (fun s0 H0 C0 cl0 fp0 => (pg_tup rfl (pgs_cons (pgN 2 sc_Bounds_leasts.nd) (pgs_cons (pgN 3 sc_Bounds_leasts.nd) (pgs_cons (pgN 4 sc_Bounds_leasts.nd) pgs_nil))))) (fun s0 H0 C0 cl0 fp0 => sts_nil) (fun s0 H0 C0 cl0 fp0 => (vE 2)) (fun s0 H0 C0 cl0 fp0 => (vE 3))))) (ss_one (ss_ret DE.ok (SO.e (so_dcT (u1 hr) rfl sc_Bounds_leasts.nd (SI.any (si_seq (s_call DE.ok (ok_hauls_of kx G c) (hr.mono (by decide)) pasX rfl (He.glo_ok kx G (x := "hauls_of") (c.a 34 rfl)) (sl_cons (s_attr DE.ok (op1_prop (He.cls_ok (x := "Bounds") (c.a 26 rfl)) (propB_ok (C := "Bounds") (f := "stops") (c.b 18 rfl)) (ok_Bounds_stops kx G c) (hr.mono (by decide))) (vE 0)) sl_nil)))) (own := [(("haul" : Str), 2)]) (blkOk_by (by kernel_rfl)) (tg_n (j := 2)) (by decide) (fun s0 H0 C0 cl0 fp0 => (pgN 2 sc_Bounds_leasts.nd)) (fun s0 H0 C0 cl0 fp0 => sts_nil) (fun s0 H0 C0 cl0 fp0 => (vE 2)) (fun s0 H0 C0 cl0 fp0 => (se_get2 (u1 hr) (vB 1) (vE 2) se_int ⟨rfl, rfl, rfl, rfl⟩)))))))
theorem ok_Bounds_greatests (kx : K.In h) (G : h.Ns mainGlobals mg) (c : SaysMT fa fm fn ts w K) : FnK P w K mg base (DE K) 3 1 ((.m "Bounds" "greatests" : Loc3).at_ K) [] c_Bounds_greatests := by
  obtain ⟨fd, F⟩ := c.d 20 (d := d_Bounds_greatests) rfl
  exact fnk_of (fin := endE) F sc_Bounds_greatests rfl (F.bindsN fun _ _ _ _ _ _ us hl => match us, hl with | [_], _ => rfl) .nil (fun _ _ => .nil) finE fun cdv A outer s H E hr =>
    (ss_cons (ss_set (i := 1) sc_Bounds_greatests.nd rfl (by first | exact Or.inl rfl | exact Or.inr rfl) (SO.e (so_dcT (u1 hr) rfl sc_Bounds_greatests.nd (SI.any (si_seq (s_attr DE.ok (op1_prop (He.cls_ok (x := "Bounds") (c.a 26 rfl)) (propB_ok (C := "Bounds") (f := "ranges") (c.b 19 rfl)) (ok_Bounds_ranges kx G c) (hr.mono (by decide))) (vE 0)))) (own := [(("haul" : Str), 2), (("least" : Str), 3), (("greatest" : Str), 4)]) (blkOk_by (by kernel_rfl)) (tg_t (tgs_cons (j := 2) (tgs_cons (j := 3) (tgs_cons (j := 4) tgs_nil))) rfl) (by decide) (fun s0 H0 C0 cl0 fp0 => (pg_tup rfl (pgs_cons (pgN 2 sc_Bounds_greatests.nd) (pgs_cons (pgN 3 sc_Bounds_greatests.nd) (pgs_cons (pgN 4 sc_Bounds_greatests.nd) pgs_nil))))) (fun s0 H0 C0 cl0 fp0 => sts_nil) (fun s0 H0 C0 cl0 fp0 => (vE 2)) (fun s0 H0 C0 cl0 fp0 => (vE 4))))) (ss_one (ss_ret DE.ok (SO.e (so_dcT (u1 hr) rfl sc_Bounds_greatests.nd (SI.any (si_seq (s_call DE.ok (ok_hauls_of kx G c) (hr.mono (by decide)) pasX rfl (He.glo_ok kx G (x := "hauls_of") (c.a 34 rfl)) (sl_cons (s_attr DE.ok (op1_prop (He.cls_ok (x := "Bounds") (c.a 26 rfl)) (propB_ok (C := "Bounds") (f := "stops") (c.b 18 rfl)) (ok_Bounds_stops kx G c) (hr.mono (by decide))) (vE 0)) sl_nil)))) (own := [(("haul" : Str), 2)]) (blkOk_by (by kernel_rfl)) (tg_n (j := 2)) (by decide) (fun s0 H0 C0 cl0 fp0 => (pgN 2 sc_Bounds_greatests.nd)) (fun s0 H0 C0 cl0 fp0 => sts_nil) (fun s0 H0 C0 cl0 fp0 => (vE 2)) (fun s0 H0 C0 cl0 fp0 => (se_get1 (u1 hr) (vB 1) (vE 2) ⟨rfl, rfl, rfl, rfl⟩)))))))
theorem ok_Question___init__ (kx : K.In h) (G : h.Ns mainGlobals mg) (c : SaysMT fa fm fn ts w K) : InK P w K mg base 4 2 "Question" ((.m "Question" "__init__" : Loc3).at_ K) [] c_Question___init__ := by
  obtain ⟨fd, F⟩ := c.d 21 (d := d_Question___init__) rfl
  exact ink_of (He.mkr_ok (x := "Question") (c.a 39 rfl)) F sc_Question___init__ rfl (F.bindsN fun _ _ _ _ _ _ us hl => match us, hl with | [_, _, _], _ => rfl) .nil (fun _ _ => .nil) fun cdv A outer s H E hr =>
    (ss_cons (ss_fld (i := 0) rfl (by first | exact Or.inl rfl | exact Or.inr (Or.inl rfl)) (s_attr DE.ok (op1_prop (He.cls_ok (x := "Bounds") (c.a 26 rfl)) (propB_ok (C := "Bounds") (f := "stops") (c.b 18 rfl)) (ok_Bounds_stops kx G c) (hr.mono (by decide))) (vE 1)) (He.cls_ok (x := "Question") (c.a 30 rfl)) (He.noat_ok (x := "Question") (f := "line") (c.a 31 rfl))) (ss_cons (ss_fld (i := 0) rfl (by first | exact Or.inl rfl | exact Or.inr (Or.inl rfl)) (vE 2) (He.cls_ok (x := "Question") (c.a 30 rfl)) (He.noat_ok (x := "Question") (f := "kind") (c.a 32 rfl))) (ss_cons (ss_fld (i := 0) rfl (by first | exact Or.inl rfl | exact Or.inr (Or.inl rfl)) (s_meth0 DE.ok (He.cls_ok (x := "Bounds") (c.a 26 rfl)) (He.meth_ok (x := "Bounds") (m := "leasts") (c.a 35 rfl)) (ok_Bounds_leasts kx G c) (hr.mono (by decide)) pasX (vE 1)) (He.cls_ok (x := "Question") (c.a 30 rfl)) (He.noat_ok (x := "Question") (f := "least") (c.a 36 rfl))) (ss_one (ss_fld (i := 0) rfl (by first | exact Or.inl rfl | exact Or.inr (Or.inl rfl)) (s_meth0 DE.ok (He.cls_ok (x := "Bounds") (c.a 26 rfl)) (He.meth_ok (x := "Bounds") (m := "greatests") (c.a 37 rfl)) (ok_Bounds_greatests kx G c) (hr.mono (by decide)) pasX (vE 1)) (He.cls_ok (x := "Question") (c.a 30 rfl)) (He.noat_ok (x := "Question") (f := "greatest") (c.a 38 rfl)))))))
theorem ok_question_in (kx : K.In h) (G : h.Ns mainGlobals mg) (c : SaysMT fa fm fn ts w K) : FnK P w K mg base (DE K) 9 1 ((.g "question_in" : Loc3).at_ K) [] c_question_in := by
  obtain ⟨fd, F⟩ := c.d 22 (d := d_question_in) rfl
  exact fnk_of (fin := endE) F sc_question_in rfl (F.bindsN fun _ _ _ _ _ _ us hl => match us, hl with | [_], _ => rfl) .nil (fun _ _ => .nil) finE fun cdv A outer s H E hr =>
    (ss_cons (ss_if (st_w (sw_or (st_not (st_val (se_isi (isK_T tyT_tuple (ics_cons ⟨clsTB_ok (c.b 2 rfl), of_decide_eq_true (c.b 3 rfl)⟩ (ics_cons ⟨clsTB_ok (c.b 0 rfl), of_decide_eq_true (c.b 1 rfl)⟩ ics_nil))) (vB 0) (pe_tyN (n := "tuple") rfl (He.free_ok kx G (x := "tuple") (c.a 1 rfl)) (by decide +kernel)) (.ty "tuple") rfl (He.free_ok kx G (x := "isinstance") (c.a 2 rfl))))) (sw_or (st_cmp (op2_lt hr.units0) (SE.b (s_callB DE.ok call_lenS rfl (He.free_ok kx G (x := "len") (c.a 3 rfl)) (by decide +kernel) (slb_cons (vB 0) slb_nil))) (SE.b se_int) rfl) (sw_or1 (st_not (st_val (se_isi (isK_T tyT_str (ics_cons ⟨clsTB_ok (c.b 2 rfl), of_decide_eq_true (c.b 5 rfl)⟩ (ics_cons ⟨clsTB_ok (c.b 0 rfl), of_decide_eq_true (c.b 4 rfl)⟩ ics_nil))) (SE.b (s_ix (u1 hr) (vB 0) (SE.b se_int))) (pe_tyN (n := "str") rfl (He.free_ok kx G (x := "str") (c.a 4 rfl)) (by decide +kernel)) (.ty "str") rfl (He.free_ok kx G (x := "isinstance") (c.a 2 rfl))))))))) (ss_one (ss_ret DE.ok se_non)) ss_nil) (ss_cons (ss_if (st_w (sw_or (st_cmp (op2_ne hr.units) (SE.b (se_tabGetN (c.tf 0 rfl) (pe_own (He.glo_ok kx G (x := "SIZES") (c.a 5 rfl))) (s_ix (u1 hr) (vB 0) (SE.b se_int)) ⟨rfl, rfl, rfl, rfl⟩)) (SE.b (s_callB DE.ok call_lenS rfl (He.free_ok kx G (x := "len") (c.a 3 rfl)) (by decide +kernel) (slb_cons (vB 0) slb_nil))) rfl) (sw_or (st_not (st_val (s_call DE.ok (ok_is_rules kx G c) (hr.mono (by decide)) pasX rfl (He.glo_ok kx G (x := "is_rules") (c.a 7 rfl)) (sl_cons (s_ix (u1 hr) (vB 0) (SE.b se_int)) sl_nil)))) (sw_or1 (st_w (sw_and (st_cmp (op2_eq hr.units) (SE.b (s_ix (u1 hr) (vB 0) (SE.b se_int))) (SE.b se_str) rfl) (sw_and1 (st_cmp (op2_eq hr.units) (SE.b (s_ix (u1 hr) (vB 0) (SE.b se_int))) (SE.b se_str) rfl)))))))) (ss_one (ss_ret DE.ok se_non)) ss_nil) (ss_cons (ss_set (i := 1) sc_question_in.nd rfl (by first | exact Or.inl rfl | exact Or.inr rfl) (s_call DE.ok (ok_bounds_in kx G c) (hr.mono (by decide)) pasX rfl (He.glo_ok kx G (x := "bounds_in") (c.a 29 rfl)) (sl_cons (s_ix (u1 hr) (vB 0) (SE.b se_int)) sl_nil))) (ss_cons (ss_if (st_w (sw_or (st_cmp op2_isN (vB 1) (SE.b se_non) rfl) (sw_or1 (st_w (sw_and (st_cmp (op2_eq hr.units) (SE.b (s_callB DE.ok call_lenS rfl (He.free_ok kx G (x := "len") (c.a 3 rfl)) (by decide +kernel) (slb_cons (vB 0) slb_nil))) (SE.b se_int) rfl) (sw_and1 (st_not (st_w (sw_and (st_val (s_call DE.ok (ok_is_haul kx G c) (hr.mono (by decide)) pasX rfl (He.glo_ok kx G (x := "is_haul") (c.a 19 rfl)) (sl_cons (s_ix (u1 hr) (vB 0) (SE.b se_int)) (sl_cons (s_attr DE.ok (op1_prop (He.cls_ok (x := "Bounds") (c.a 26 rfl)) (propB_ok (C := "Bounds") (f := "stops") (c.b 18 rfl)) (ok_Bounds_stops kx G c) (hr.mono (by decide))) (vE 1)) sl_nil)))) (sw_and1 (st_val (s_call DE.ok (ok_is_integer kx G c) (hr.mono (by decide)) pasX rfl (He.glo_ok kx G (x := "is_integer") (c.a 18 rfl)) (sl_cons (s_ix (u1 hr) (vB 0) (SE.b se_int)) sl_nil))))))))))))) (ss_one (ss_ret DE.ok se_non)) ss_nil) (ss_one (ss_ret DE.ok (SO.e (so_make (ok_Question___init__ kx G c) (hr.mono (by decide)) pasX rfl (He.glo_ok kx G (x := "Question") (c.a 40 rfl)) (sl_cons (vE 1) (sl_cons (s_ix (u1 hr) (vB 0) (SE.b se_int)) sl_nil))))))))))
theorem ok_are_prices (kx : K.In h) (G : h.Ns mainGlobals mg) (c : SaysMT fa fm fn ts w K) : FnK P w K mg base (DE K) 2 2 ((.g "are_prices" : Loc3).at_ K) [] c_are_prices := by
  obtain ⟨fd, F⟩ := c.d 23 (d := d_are_prices) rfl
  exact fnk_of (fin := endE) F sc_are_prices rfl (F.bindsN fun _ _ _ _ _ _ us hl => match us, hl with | [_, _], _ => rfl) .nil (fun _ _ => .nil) finE fun cdv A outer s H E hr =>
    (ss_cons (ss_if (st_w (sw_or (st_not (st_val (se_isi (isK_T tyT_tuple (ics_cons ⟨clsTB_ok (c.b 2 rfl), of_decide_eq_true (c.b 3 rfl)⟩ (ics_cons ⟨clsTB_ok (c.b 0 rfl), of_decide_eq_true (c.b 1 rfl)⟩ ics_nil))) (vB 0) (pe_tyN (n := "tuple") rfl (He.free_ok kx G (x := "tuple") (c.a 1 rfl)) (by decide +kernel)) (.ty "tuple") rfl (He.free_ok kx G (x := "isinstance") (c.a 2 rfl))))) (sw_or1 (st_cmp (op2_ne hr.units) (SE.b (s_callB DE.ok call_lenS rfl (He.free_ok kx G (x := "len") (c.a 3 rfl)) (by decide +kernel) (slb_cons (vB 0) slb_nil))) (SE.b (s_bin DE.ok op2_sub (vB 1) (SE.b se_int))) rfl)))) (ss_one (ss_ret DE.ok se_bl)) ss_nil) (ss_cons (ss_for ownX rfl (si_enu (vE 0) rfl (He.free_ok kx G (x := "enumerate") (c.a 16 rfl))) (tg_t (tgs_cons (j := 2) (tgs_cons (j := 3) tgs_nil)) rfl) (pg_tup rfl (pgs_cons (pgN 2 sc_are_prices.nd) (pgs_cons (pgN 3 sc_are_prices.nd) pgs_nil))) (ss_cons (ss_if (st_w (sw_or (st_not (st_val (se_isi (isK_T tyT_tuple (ics_cons ⟨clsTB_ok (c.b 2 rfl), of_decide_eq_true (c.b 3 rfl)⟩ (ics_cons ⟨clsTB_ok (c.b 0 rfl), of_decide_eq_true (c.b 1 rfl)⟩ ics_nil))) (vB 3) (pe_tyN (n := "tuple") rfl (He.free_ok kx G (x := "tuple") (c.a 1 rfl)) (by decide +kernel)) (.ty "tuple") rfl (He.free_ok kx G (x := "isinstance") (c.a 2 rfl))))) (sw_or1 (st_cmp (op2_ne hr.units) (SE.b (s_callB DE.ok call_lenS rfl (He.free_ok kx G (x := "len") (c.a 3 rfl)) (by decide +kernel) (slb_cons (vB 3) slb_nil))) (SE.b (s_bin DE.ok op2_sub (SE.b (s_bin DE.ok op2_sub (vB 1) (SE.b se_int))) (vB 2))) rfl)))) (ss_one (ss_ret DE.ok se_bl)) ss_nil) (ss_one (ss_if (st_not (st_val (s_callB DE.ok (call_allS rfl) rfl (He.free_ok kx G (x := "all") (c.a 10 rfl)) (by decide +kernel) (slb_cons (SE.b (SO.e (so_lc rfl sc_are_prices.nd (SI.any (si_seq (vE 3))) (own := [(("one" : Str), 4)]) (blkOk_by (by kernel_rfl)) (tg_n (j := 4)) (by decide) (fun s0 H0 C0 cl0 fp0 => (pgN 4 sc_are_prices.nd)) (fun s0 H0 C0 cl0 fp0 => sts_nil) (fun s0 H0 C0 cl0 fp0 => (se_and (s_call DE.ok (ok_is_integer kx G c) (hr.mono (by decide)) pas_no rfl (He.glo_ok kx G (x := "is_integer") (c.a 18 rfl)) (sl_cons (vE 4) sl_nil)) (se_one (s_cmp DE.ok op2_ge (vB 4) (SE.b se_int) rfl))))))) slb_nil)))) (ss_one (ss_ret DE.ok se_bl)) ss_nil)))) (ss_one (ss_ret DE.ok se_bl))))
theorem ok_costs_in (kx : K.In h) (G : h.Ns mainGlobals mg) (c : SaysMT fa fm fn ts w K) : FnK P w K mg base (DE K) 2 1 ((.g "costs_in" : Loc3).at_ K) [] c_costs_in := by
  obtain ⟨fd, F⟩ := c.d 24 (d := d_costs_in) rfl
  exact fnk_of (fin := endE) F sc_costs_in rfl (F.bindsN fun _ _ _ _ _ _ us hl => match us, hl with | [_], _ => rfl) .nil (fun _ _ => .nil) finE fun cdv A outer s H E hr =>
    (ss_one (ss_ret DE.ok (SO.e (so_dcT (u1 hr) rfl sc_costs_in.nd (SI.any (si_seq (s_call DE.ok (ok_hauls_of kx G c) (hr.mono (by decide)) pasX rfl (He.glo_ok kx G (x := "hauls_of") (c.a 34 rfl)) (sl_cons (s_bin DE.ok op2_add (SE.b (s_callB DE.ok call_lenS rfl (He.free_ok kx G (x := "len") (c.a 3 rfl)) (by decide +kernel) (slb_cons (vB 0) slb_nil))) (SE.b se_int)) sl_nil)))) (own := [(("haul" : Str), 1)]) (blkOk_by (by kernel_rfl)) (tg_n (j := 1)) (by decide) (fun s0 H0 C0 cl0 fp0 => (pgN 1 sc_costs_in.nd)) (fun s0 H0 C0 cl0 fp0 => sts_nil) (fun s0 H0 C0 cl0 fp0 => (vE 1)) (fun s0 H0 C0 cl0 fp0 => (s_ix (u1 hr) (SE.b (s_ix (u1 hr) (vB 0) (SE.b (s_ix (u1 hr) (vB 1) (SE.b se_int))))) (SE.b (s_bin DE.ok op2_sub (SE.b (s_bin DE.ok op2_sub (SE.b (s_ix (u1 hr) (vB 1) (SE.b se_int))) (SE.b (s_ix (u1 hr) (vB 1) (SE.b se_int))))) (SE.b se_int)))))))))
theorem ok_lies_within (kx : K.In h) (G : h.Ns mainGlobals mg) (c : SaysMT fa fm fn ts w K) : FnK P w K mg base (DE K) 1 2 ((.g "lies_within" : Loc3).at_ K) [] c_lies_within := by
  obtain ⟨fd, F⟩ := c.d 25 (d := d_lies_within) rfl
  exact fnk_of (fin := endE) F sc_lies_within rfl (F.bindsN fun _ _ _ _ _ _ us hl => match us, hl with | [_, _], _ => rfl) .nil (fun _ _ => .nil) finE fun cdv A outer s H E hr =>
    (ss_one (ss_ret DE.ok (se_and (s_cmp DE.ok op2_le (SE.b (s_ix (u1 hr) (vB 1) (SE.b se_int))) (SE.b (s_ix (u1 hr) (vB 0) (SE.b se_int))) rfl) (se_one (s_cmp DE.ok op2_le (SE.b (s_ix (u1 hr) (vB 0) (SE.b se_int))) (SE.b (s_ix (u1 hr) (vB 1) (SE.b se_int))) rfl)))))
theorem ok_triples_of (kx : K.In h) (G : h.Ns mainGlobals mg) (c : SaysMT fa fm fn ts w K) : FnK P w K mg base (DE K) 2 1 ((.g "triples_of" : Loc3).at_ K) [] c_triples_of := by
  obtain ⟨fd, F⟩ := c.d 26 (d := d_triples_of) rfl
  exact fnk_of (fin := endE) F sc_triples_of rfl (F.bindsN fun _ _ _ _ _ _ us hl => match us, hl with | [_], _ => rfl) .nil (fun _ _ => .nil) finE fun cdv A outer s H E hr =>
    (ss_cons (ss_set (i := 1) sc_triples_of.nd rfl (by first | exact Or.inl rfl | exact Or.inr rfl) (SO.e (so_lst sl_nil))) (ss_cons (ss_for ownX rfl (si_seq (s_call DE.ok (ok_hauls_of kx G c) (hr.mono (by decide)) pasX rfl (He.glo_ok kx G (x := "hauls_of") (c.a 34 rfl)) (sl_cons (vE 0) sl_nil))) (tg_t (tgs_cons (j := 2) (tgs_cons (j := 3) tgs_nil)) rfl) (pg_tup rfl (pgs_cons (pgN 2 sc_triples_of.nd) (pgs_cons (pgN 3 sc_triples_of.nd) pgs_nil))) (ss_one (ss_set (i := 1) sc_triples_of.nd rfl (by first | exact Or.inl rfl | exact Or.inr rfl) (s_bin DE.ok op2_add (vB 1) (SE.b (SO.e (so_lc rfl sc_triples_of.nd (SI.any (si_rng2 (s_bin DE.ok op2_add (vB 3) (SE.b se_int)) (vE 0) rfl (He.free_ok kx G (x := "range") (c.a 33 rfl)))) (own := [(("end" : Str), 4)]) (blkOk_by (by kernel_rfl)) (tg_n (j := 4)) (by decide) (fun s0 H0 C0 cl0 fp0 => (pgN 4 sc_triples_of.nd)) (fun s0 H0 C0 cl0 fp0 => sts_nil) (fun s0 H0 C0 cl0 fp0 => (se_tup (sl_cons (vE 2) (sl_cons (vE 3) (sl_cons (vE 4) sl_nil)))))))))))) (ss_one (ss_ret DE.ok (vE 1)))))
theorem ok_break_of (kx : K.In h) (G : h.Ns mainGlobals mg) (c : SaysMT fa fm fn ts w K) : FnK P w K mg base (DE K) 3 3 ((.g "break_of" : Loc3).at_ K) [] c_break_of := by
  obtain ⟨fd, F⟩ := c.d 27 (d := d_break_of) rfl
  exact fnk_of (fin := endE) F sc_break_of rfl (F.bindsN fun _ _ _ _ _ _ us hl => match us, hl with | [_, _, _], _ => rfl) .nil (fun _ _ => .nil) finE fun cdv A outer s H E hr =>
    (ss_cons (ss_if (st_cmp (op2_ne hr.units) (vB 2) (SE.b se_str) rfl) (ss_one (ss_for ownX rfl (si_seq (s_call DE.ok (ok_hauls_of kx G c) (hr.mono (by decide)) pasX rfl (He.glo_ok kx G (x := "hauls_of") (c.a 34 rfl)) (sl_cons (vE 0) sl_nil))) (tg_n (j := 3)) (pgN 3 sc_break_of.nd) (ss_one (ss_for ownX rfl (si_seq (s_call DE.ok (ok_hauls_of kx G c) (hr.mono (by decide)) pasX rfl (He.glo_ok kx G (x := "hauls_of") (c.a 34 rfl)) (sl_cons (vE 0) sl_nil))) (tg_n (j := 4)) (pgN 4 sc_break_of.nd) (ss_one (ss_if (st_w (sw_and (st_val (s_call DE.ok (ok_lies_within kx G c) (hr.mono (by decide)) pasX rfl (He.glo_ok kx G (x := "lies_within") (c.a 45 rfl)) (sl_cons (vE 3) (sl_cons (vE 4) sl_nil)))) (sw_and1 (st_cmp op2_gt (SE.b (s_ix (u1 hr) (vB 1) (vB 3))) (SE.b (s_ix (u1 hr) (vB 1) (vB 4))) rfl)))) (ss_one (ss_ret DE.ok (se_tup (sl_cons se_str (sl_cons (vE 3) (sl_cons (vE 4) sl_nil)))))) ss_nil)))))) ss_nil) (ss_cons (ss_if (st_cmp (op2_ne hr.units) (vB 2) (SE.b se_str) rfl) (ss_one (ss_for ownX rfl (si_seq (s_call DE.ok (ok_triples_of kx G c) (hr.mono (by decide)) pasX rfl (He.glo_ok kx G (x := "triples_of") (c.a 46 rfl)) (sl_cons (vE 0) sl_nil))) (tg_t (tgs_cons (j := 5) (tgs_cons (j := 6) (tgs_cons (j := 7) tgs_nil))) rfl) (pg_tup rfl (pgs_cons (pgN 5 sc_break_of.nd) (pgs_cons (pgN 6 sc_break_of.nd) (pgs_cons (pgN 7 sc_break_of.nd) pgs_nil)))) (ss_one (ss_if (st_cmp op2_gt (SE.b (s_ix (u1 hr) (vB 1) (SE.b (se_tup (sl_cons (vE 5) (sl_cons (vE 7) sl_nil)))))) (SE.b (s_bin DE.ok op2_add (SE.b (s_ix (u1 hr) (vB 1) (SE.b (se_tup (sl_cons (vE 5) (sl_cons (vE 6) sl_nil)))))) (SE.b (s_ix (u1 hr) (vB 1) (SE.b (se_tup (sl_cons (vE 6) (sl_cons (vE 7) sl_nil)))))))) rfl) (ss_one (ss_ret DE.ok (se_tup (sl_cons se_str (sl_cons (vE 5) (sl_cons (vE 6) (sl_cons (vE 7) sl_nil))))))) ss_nil)))) ss_nil) (ss_one (ss_ret DE.ok se_non))))
theorem ok_is_fitting (kx : K.In h) (G : h.Ns mainGlobals mg) (c : SaysMT fa fm fn ts w K) : FnK P w K mg base (DE K) 4 2 ((.g "is_fitting" : Loc3).at_ K) [] c_is_fitting := by
  obtain ⟨fd, F⟩ := c.d 28 (d := d_is_fitting) rfl
  exact fnk_of (fin := endE) F sc_is_fitting rfl (F.bindsN fun _ _ _ _ _ _ us hl => match us, hl with | [_, _], _ => rfl) .nil (fun _ _ => .nil) finE fun cdv A outer s H E hr =>
    (ss_cons (ss_if (st_not (st_val (s_call DE.ok (ok_are_prices kx G c) (hr.mono (by decide)) pasX rfl (He.glo_ok kx G (x := "are_prices") (c.a 43 rfl)) (sl_cons (vE 1) (sl_cons (s_attrB DE.ok (op1_fld (He.cls_ok (x := "Question") (c.a 30 rfl)) (He.noat_ok (x := "Question") (f := "line") (c.a 31 rfl))) (vB 0)) sl_nil))))) (ss_one (ss_ret DE.ok se_bl)) ss_nil) (ss_cons (ss_for ownX rfl (si_items (s_call DE.ok (ok_costs_in kx G c) (hr.mono (by decide)) pasX rfl (He.glo_ok kx G (x := "costs_in") (c.a 44 rfl)) (sl_cons (vE 1) sl_nil))) (tg_t (tgs_cons (j := 2) (tgs_cons (j := 3) tgs_nil)) rfl) (pg_tup rfl (pgs_cons (pgN 2 sc_is_fitting.nd) (pgs_cons (pgN 3 sc_is_fitting.nd) pgs_nil))) (ss_cons (ss_set (i := 4) sc_is_fitting.nd rfl (by first | exact Or.inl rfl | exact Or.inr rfl) (s_ix (u1 hr) (SE.b (s_attrB DE.ok (op1_fld (He.cls_ok (x := "Question") (c.a 30 rfl)) (He.noat_ok (x := "Question") (f := "greatest") (c.a 38 rfl))) (vB 0))) (vB 2))) (ss_one (ss_if (st_w (sw_or (st_cmp (op2_lt hr.units0) (vB 3) (SE.b (s_ix (u1 hr) (SE.b (s_attrB DE.ok (op1_fld (He.cls_ok (x := "Question") (c.a 30 rfl)) (He.noat_ok (x := "Question") (f := "least") (c.a 36 rfl))) (vB 0))) (vB 2))) rfl) (sw_or1 (st_w (sw_and (st_cmp op2_notN (vB 4) (SE.b se_non) rfl) (sw_and1 (st_cmp (op2_lt hr.units0) (vB 4) (vB 3) rfl))))))) (ss_one (ss_ret DE.ok se_bl)) ss_nil)))) (ss_one (ss_ret DE.ok (s_cmp DE.ok op2_isN (SE.b (s_call DE.ok (ok_break_of kx G c) (hr.mono (by decide)) pasX rfl (He.glo_ok kx G (x := "break_of") (c.a 47 rfl)) (sl_cons (s_attrB DE.ok (op1_fld (He.cls_ok (x := "Question") (c.a 30 rfl)) (He.noat_ok (x := "Question") (f := "line") (c.a 31 rfl))) (vB 0)) (sl_cons (s_call DE.ok (ok_costs_in kx G c) (hr.mono (by decide)) pasX rfl (He.glo_ok kx G (x := "costs_in") (c.a 44 rfl)) (sl_cons (vE 1) sl_nil)) (sl_cons (s_attrB DE.ok (op1_fld (He.cls_ok (x := "Question") (c.a 30 rfl)) (He.noat_ok (x := "Question") (f := "kind") (c.a 32 rfl))) (vB 0)) sl_nil))))) (SE.b se_non) rfl)))))
theorem ok_fits_shown (kx : K.In h) (G : h.Ns mainGlobals mg) (c : SaysMT fa fm fn ts w K) : FnK P w K mg base (DE K) 5 3 ((.g "fits_shown" : Loc3).at_ K) [] c_fits_shown := by
  obtain ⟨fd, F⟩ := c.d 29 (d := d_fits_shown) rfl
  exact fnk_of (fin := endE) F sc_fits_shown rfl (F.bindsN fun _ _ _ _ _ _ us hl => match us, hl with | [_, _, _], _ => rfl) .nil (fun _ _ => .nil) finE fun cdv A outer s H E hr =>
    (ss_one (ss_ret DE.ok (s_call DE.ok (ok_is_fitting kx G c) (hr.mono (by decide)) pasX rfl (He.glo_ok kx G (x := "is_fitting") (c.a 48 rfl)) (sl_cons (vE 0) (sl_cons (vE 2) sl_nil)))))
theorem ok_is_cover (kx : K.In h) (G : h.Ns mainGlobals mg) (c : SaysMT fa fm fn ts w K) : FnK P w K mg base (DE K) 3 3 ((.g "is_cover" : Loc3).at_ K) [] c_is_cover := by
  obtain ⟨fd, F⟩ := c.d 30 (d := d_is_cover) rfl
  exact fnk_of (fin := endE) F sc_is_cover rfl (F.bindsN fun _ _ _ _ _ _ us hl => match us, hl with | [_, _, _], _ => rfl) .nil (fun _ _ => .nil) finE fun cdv A outer s H E hr =>
    (ss_cons (ss_if (st_w (sw_or (st_not (st_val (se_isi (isK_T tyT_tuple (ics_cons ⟨clsTB_ok (c.b 2 rfl), of_decide_eq_true (c.b 3 rfl)⟩ (ics_cons ⟨clsTB_ok (c.b 0 rfl), of_decide_eq_true (c.b 1 rfl)⟩ ics_nil))) (vB 2) (pe_tyN (n := "tuple") rfl (He.free_ok kx G (x := "tuple") (c.a 1 rfl)) (by decide +kernel)) (.ty "tuple") rfl (He.free_ok kx G (x := "isinstance") (c.a 2 rfl))))) (sw_or (st_cmp (op2_eq hr.units) (vB 2) (SE.b (se_tup sl_nil)) rfl) (sw_or1 (st_not (st_val (s_callB DE.ok (call_allS rfl) rfl (He.free_ok kx G (x := "all") (c.a 10 rfl)) (by decide +kernel) (slb_cons (SE.b (SO.e (so_lc rfl sc_is_cover.nd (SI.any (si_seq (vE 2))) (own := [(("one" : Str), 8)]) (blkOk_by (by kernel_rfl)) (tg_n (j := 8)) (by decide) (fun s0 H0 C0 cl0 fp0 => (pgN 8 sc_is_cover.nd)) (fun s0 H0 C0 cl0 fp0 => sts_nil) (fun s0 H0 C0 cl0 fp0 => (s_call DE.ok (ok_is_haul kx G c) (hr.mono (by decide)) pas_no rfl (He.glo_ok kx G (x := "is_haul") (c.a 19 rfl)) (sl_cons (vE 8) (sl_cons (s_attrB DE.ok (op1_fld (He.cls_ok (x := "Question") (c.a 30 rfl)) (He.noat_ok (x := "Question") (f := "line") (c.a 31 rfl))) (vB 0)) sl_nil))))))) slb_nil)))))))) (ss_one (ss_ret DE.ok se_bl)) ss_nil) (ss_cons (ss_if (st_cmp (op2_eq hr.units) (SE.b (s_attrB DE.ok (op1_fld (He.cls_ok (x := "Question") (c.a 30 rfl)) (He.noat_ok (x := "Question") (f := "kind") (c.a 32 rfl))) (vB 0))) (SE.b se_str) rfl) (ss_one (ss_ret DE.ok (se_and (s_cmp DE.ok (op2_eq hr.units) (SE.b (s_callB DE.ok call_lenS rfl (He.free_ok kx G (x := "len") (c.a 3 rfl)) (by decide +kernel) (slb_cons (vB 2) slb_nil))) (SE.b se_int) rfl) (se_one (s_call DE.ok (ok_lies_within kx G c) (hr.mono (by decide)) pasX rfl (He.glo_ok kx G (x := "lies_within") (c.a 45 rfl)) (sl_cons (vE 1) (sl_cons (s_ix (u1 hr) (vB 2) (SE.b se_int)) sl_nil))))))) ss_nil) (ss_cons (ss_if (st_cmp (op2_eq hr.units) (SE.b (s_attrB DE.ok (op1_fld (He.cls_ok (x := "Question") (c.a 30 rfl)) (He.noat_ok (x := "Question") (f := "kind") (c.a 32 rfl))) (vB 0))) (SE.b se_str) rfl) (ss_cons (ss_lc (i := 3) rfl sc_is_cover.nd rfl rfl rfl (SI.any (si_rng1 (s_bin DE.ok op2_sub (SE.b (s_callB DE.ok call_lenS rfl (He.free_ok kx G (x := "len") (c.a 3 rfl)) (by decide +kernel) (slb_cons (vB 2) slb_nil))) (SE.b se_int)) rfl (He.free_ok kx G (x := "range") (c.a 33 rfl)))) (own := [(("at" : Str), 5)]) (blkOk_by (by kernel_rfl)) (tg_n (j := 5)) (by decide) (fun s0 H0 C0 cl0 fp0 => (pgN 5 sc_is_cover.nd)) (fun s0 H0 C0 cl0 fp0 => sts_nil) (fun s0 H0 C0 cl0 fp0 => (s_cmp DE.ok (op2_eq hr.units) (SE.b (s_ix (u1 hr) (SE.b (s_ix (u1 hr) (vB 2) (vB 5))) (SE.b se_int))) (SE.b (s_ix (u1 hr) (SE.b (s_ix (u1 hr) (vB 2) (SE.b (s_bin DE.ok op2_add (vB 5) (SE.b se_int))))) (SE.b se_int))) rfl))) (sss_share (i := 3) (ss_one (ss_ret DE.ok (se_and (s_cmp DE.ok (op2_eq hr.units) (SE.b (s_ix (u1 hr) (SE.b (s_ix (u1 hr) (vB 2) (SE.b se_int))) (SE.b se_int))) (SE.b (s_ix (u1 hr) (vB 1) (SE.b se_int))) rfl) (se_and (s_cmp DE.ok (op2_eq hr.units) (SE.b (s_ix (u1 hr) (SE.b (s_ix (u1 hr) (vB 2) (SE.b (s_un DE.ok op1_neg (SE.b se_int))))) (SE.b se_int))) (SE.b (s_ix (u1 hr) (vB 1) (SE.b se_int))) rfl) (se_one (s_callB DE.ok (call_allS rfl) rfl (He.free_ok kx G (x := "all") (c.a 10 rfl)) (by decide +kernel) (slb_cons (vB 3) slb_nil))))))))) ss_nil) (ss_cons (ss_if (st_w (sw_or (st_cmp op2_gt (SE.b (s_ix (u1 hr) (SE.b (s_ix (u1 hr) (vB 2) (SE.b se_int))) (SE.b se_int))) (SE.b (s_ix (u1 hr) (vB 1) (SE.b se_int))) rfl) (sw_or1 (st_cmp (op2_lt hr.units0) (SE.b (s_ix (u1 hr) (SE.b (s_ix (u1 hr) (vB 2) (SE.b (s_un DE.ok op1_neg (SE.b se_int))))) (SE.b se_int))) (SE.b (s_ix (u1 hr) (vB 1) (SE.b se_int))) rfl)))) (ss_one (ss_ret DE.ok se_bl)) ss_nil) (ss_cons (ss_lc (i := 4) rfl sc_is_cover.nd rfl rfl rfl (SI.any (si_rng1 (s_bin DE.ok op2_sub (SE.b (s_callB DE.ok call_lenS rfl (He.free_ok kx G (x := "len") (c.a 3 rfl)) (by decide +kernel) (slb_cons (vB 2) slb_nil))) (SE.b se_int)) rfl (He.free_ok kx G (x := "range") (c.a 33 rfl)))) (own := [(("at" : Str), 5)]) (blkOk_by (by kernel_rfl)) (tg_n (j := 5)) (by decide) (fun s0 H0 C0 cl0 fp0 => (pgN 5 sc_is_cover.nd)) (fun s0 H0 C0 cl0 fp0 => sts_nil) (fun s0 H0 C0 cl0 fp0 => (se_tup (sl_cons (s_ix (u1 hr) (vB 2) (vB 5)) (sl_cons (s_ix (u1 hr) (vB 2) (SE.b (s_bin DE.ok op2_add (vB 5) (SE.b se_int)))) sl_nil))))) (sss_share (i := 4) (ss_one (ss_ret DE.ok (s_callB DE.ok (call_allS rfl) rfl (He.free_ok kx G (x := "all") (c.a 10 rfl)) (by decide +kernel) (slb_cons (SE.b (SO.e (so_lc rfl sc_is_cover.nd (SI.any (si_seq (vE 4))) (own := [(("before" : Str), 6), (("after" : Str), 7)]) (blkOk_by (by kernel_rfl)) (tg_t (tgs_cons (j := 6) (tgs_cons (j := 7) tgs_nil)) rfl) (by decide) (fun s0 H0 C0 cl0 fp0 => (pg_tup rfl (pgs_cons (pgN 6 sc_is_cover.nd) (pgs_cons (pgN 7 sc_is_cover.nd) pgs_nil)))) (fun s0 H0 C0 cl0 fp0 => sts_nil) (fun s0 H0 C0 cl0 fp0 => (se_ch op2_le (op2_lt hr.units0) (SE.b (s_ix (u1 hr) (vB 7) (SE.b se_int))) (SE.b (s_ix (u1 hr) (vB 6) (SE.b se_int))) (SE.b (s_callB DE.ok (call_minS rfl) rfl (He.free_ok kx G (x := "min") (c.a 49 rfl)) (by decide +kernel) (slb_cons (SE.b (s_ix (u1 hr) (vB 7) (SE.b se_int))) (slb_cons (SE.b (s_ix (u1 hr) (vB 1) (SE.b se_int))) slb_nil))))))))) slb_nil))))))))))
theorem ok_cost_of (kx : K.In h) (G : h.Ns mainGlobals mg) (c : SaysMT fa fm fn ts w K) : FnK P w K mg base (DE K) 4 3 ((.g "cost_of" : Loc3).at_ K) [] c_cost_of := by
  obtain ⟨fd, F⟩ := c.d 31 (d := d_cost_of) rfl
  exact fnk_of (fin := endE) F sc_cost_of rfl (F.bindsN fun _ _ _ _ _ _ us hl => match us, hl with | [_, _, _], _ => rfl) .nil (fun _ _ => .nil) finE fun cdv A outer s H E hr =>
    (ss_cons (ss_if (st_not (st_val (s_call DE.ok (ok_is_cover kx G c) (hr.mono (by decide)) pasX rfl (He.glo_ok kx G (x := "is_cover") (c.a 50 rfl)) (sl_cons (vE 0) (sl_cons (vE 1) (sl_cons (vE 2) sl_nil)))))) (ss_one (ss_ret DE.ok se_non)) ss_nil) (ss_cons (ss_lc (i := 3) rfl sc_cost_of.nd rfl rfl rfl (SI.any (si_seq (vE 2))) (own := [(("one" : Str), 4)]) (blkOk_by (by kernel_rfl)) (tg_n (j := 4)) (by decide) (fun s0 H0 C0 cl0 fp0 => (pgN 4 sc_cost_of.nd)) (fun s0 H0 C0 cl0 fp0 => sts_nil) (fun s0 H0 C0 cl0 fp0 => (s_ix (u1 hr) (SE.b (s_attrB DE.ok (op1_fld (He.cls_ok (x := "Question") (c.a 30 rfl)) (He.noat_ok (x := "Question") (f := "greatest") (c.a 38 rfl))) (vB 0))) (vB 4)))) (sss_share (i := 3) (ss_one (ss_ret DE.ok (s_if DE.ok (st_cmp op2_inF (SE.b se_non) (vB 3) rfl) se_non (s_callB DE.ok (call_sumS rfl) rfl (He.free_ok kx G (x := "sum") (c.a 51 rfl)) (by decide +kernel) (slb_cons (vB 3) slb_nil))))))))
theorem ok_none_shown (kx : K.In h) (G : h.Ns mainGlobals mg) (c : SaysMT fa fm fn ts w K) : FnK P w K mg base (DE K) 5 3 ((.g "none_shown" : Loc3).at_ K) [] c_none_shown := by
  obtain ⟨fd, F⟩ := c.d 32 (d := d_none_shown) rfl
  exact fnk_of (fin := endE) F sc_none_shown rfl (F.bindsN fun _ _ _ _ _ _ us hl => match us, hl with | [_, _, _], _ => rfl) .nil (fun _ _ => .nil) finE fun cdv A outer s H E hr =>
    (ss_cons (ss_if (st_w (sw_or (st_not (st_val (se_isi (isK_T tyT_tuple (ics_cons ⟨clsTB_ok (c.b 2 rfl), of_decide_eq_true (c.b 3 rfl)⟩ (ics_cons ⟨clsTB_ok (c.b 0 rfl), of_decide_eq_true (c.b 1 rfl)⟩ ics_nil))) (vB 2) (pe_tyN (n := "tuple") rfl (He.free_ok kx G (x := "tuple") (c.a 1 rfl)) (by decide +kernel)) (.ty "tuple") rfl (He.free_ok kx G (x := "isinstance") (c.a 2 rfl))))) (sw_or (st_cmp (op2_ne hr.units) (SE.b (s_callB DE.ok call_lenS rfl (He.free_ok kx G (x := "len") (c.a 3 rfl)) (by decide +kernel) (slb_cons (vB 2) slb_nil))) (SE.b se_int) rfl) (sw_or1 (st_not (st_val (s_call DE.ok (ok_is_haul kx G c) (hr.mono (by decide)) pasX rfl (He.glo_ok kx G (x := "is_haul") (c.a 19 rfl)) (sl_cons (s_ix (u1 hr) (vB 2) (SE.b se_int)) (sl_cons (s_attrB DE.ok (op1_fld (He.cls_ok (x := "Question") (c.a 30 rfl)) (He.noat_ok (x := "Question") (f := "line") (c.a 31 rfl))) (vB 0)) sl_nil))))))))) (ss_one (ss_ret DE.ok se_bl)) ss_nil) (ss_cons (ss_set (i := 3) sc_none_shown.nd rfl (by first | exact Or.inl rfl | exact Or.inr rfl) (s_call DE.ok (ok_cost_of kx G c) (hr.mono (by decide)) pasX rfl (He.glo_ok kx G (x := "cost_of") (c.a 52 rfl)) (sl_cons (vE 0) (sl_cons (s_ix (u1 hr) (vB 2) (SE.b se_int)) (sl_cons (s_ix (u1 hr) (vB 2) (SE.b se_int)) sl_nil))))) (ss_one (ss_ret DE.ok (se_and (s_cmp DE.ok op2_notN (vB 3) (SE.b se_non) rfl) (se_one (s_cmp DE.ok (op2_lt hr.units0) (vB 3) (SE.b (s_ix (u1 hr) (SE.b (s_attrB DE.ok (op1_fld (He.cls_ok (x := "Question") (c.a 30 rfl)) (He.noat_ok (x := "Question") (f := "least") (c.a 36 rfl))) (vB 0))) (SE.b (s_ix (u1 hr) (vB 2) (SE.b se_int))))) rfl)))))))
theorem ok_most_shown (kx : K.In h) (G : h.Ns mainGlobals mg) (c : SaysMT fa fm fn ts w K) : FnK P w K mg base (DE K) 5 3 ((.g "most_shown" : Loc3).at_ K) [] c_most_shown := by
  obtain ⟨fd, F⟩ := c.d 33 (d := d_most_shown) rfl
  exact fnk_of (fin := endE) F sc_most_shown rfl (F.bindsN fun _ _ _ _ _ _ us hl => match us, hl with | [_, _, _], _ => rfl) .nil (fun _ _ => .nil) finE fun cdv A outer s H E hr =>
    (ss_cons (ss_set (i := 3) sc_most_shown.nd rfl (by first | exact Or.inl rfl | exact Or.inr rfl) (s_call DE.ok (ok_cost_of kx G c) (hr.mono (by decide)) pasX rfl (He.glo_ok kx G (x := "cost_of") (c.a 52 rfl)) (sl_cons (vE 0) (sl_cons (s_ix (u1 hr) (vB 1) (SE.b se_int)) (sl_cons (vE 2) sl_nil))))) (ss_one (ss_ret DE.ok (se_and (s_cmp DE.ok op2_notN (vB 3) (SE.b se_non) rfl) (se_one (s_cmp DE.ok op2_le (vB 3) (SE.b (s_ix (u1 hr) (vB 1) (SE.b se_int))) rfl))))))
theorem ok_is_beside (kx : K.In h) (G : h.Ns mainGlobals mg) (c : SaysMT fa fm fn ts w K) : FnK P w K mg base (DE K) 2 3 ((.g "is_beside" : Loc3).at_ K) [] c_is_beside := by
  obtain ⟨fd, F⟩ := c.d 34 (d := d_is_beside) rfl
  exact fnk_of (fin := endE) F sc_is_beside rfl (F.bindsN fun _ _ _ _ _ _ us hl => match us, hl with | [_, _, _], _ => rfl) .nil (fun _ _ => .nil) finE fun cdv A outer s H E hr =>
    (ss_cons (ss_if (st_cmp (op2_eq hr.units) (SE.b (s_attrB DE.ok (op1_fld (He.cls_ok (x := "Question") (c.a 30 rfl)) (He.noat_ok (x := "Question") (f := "kind") (c.a 32 rfl))) (vB 0))) (SE.b se_str) rfl) (ss_one (ss_ret DE.ok (s_call DE.ok (ok_lies_within kx G c) (hr.mono (by decide)) pasX rfl (He.glo_ok kx G (x := "lies_within") (c.a 45 rfl)) (sl_cons (vE 2) (sl_cons (vE 1) sl_nil))))) ss_nil) (ss_cons (ss_if (st_cmp (op2_eq hr.units) (SE.b (s_attrB DE.ok (op1_fld (He.cls_ok (x := "Question") (c.a 30 rfl)) (He.noat_ok (x := "Question") (f := "kind") (c.a 32 rfl))) (vB 0))) (SE.b se_str) rfl) (ss_one (ss_ret DE.ok (s_call DE.ok (ok_lies_within kx G c) (hr.mono (by decide)) pasX rfl (He.glo_ok kx G (x := "lies_within") (c.a 45 rfl)) (sl_cons (vE 1) (sl_cons (vE 2) sl_nil))))) ss_nil) (ss_one (ss_ret DE.ok (se_and (s_cmp DE.ok (op2_lt hr.units0) (SE.b (s_ix (u1 hr) (vB 2) (SE.b se_int))) (SE.b (s_ix (u1 hr) (vB 1) (SE.b se_int))) rfl) (se_one (s_cmp DE.ok (op2_lt hr.units0) (SE.b (s_ix (u1 hr) (vB 1) (SE.b se_int))) (SE.b (s_ix (u1 hr) (vB 2) (SE.b se_int))) rfl)))))))
theorem ok_stretch_cost (kx : K.In h) (G : h.Ns mainGlobals mg) (c : SaysMT fa fm fn ts w K) : FnK P w K mg base (DE K) 5 4 ((.g "stretch_cost" : Loc3).at_ K) [] c_stretch_cost := by
  obtain ⟨fd, F⟩ := c.d 35 (d := d_stretch_cost) rfl
  exact fnk_of (fin := endE) F sc_stretch_cost rfl (F.bindsN fun _ _ _ _ _ _ us hl => match us, hl with | [_, _, _, _], _ => rfl) .nil (fun _ _ => .nil) finE fun cdv A outer s H E hr =>
    (ss_cons (ss_if (st_cmp (op2_lt hr.units0) (vB 1) (vB 2) rfl) (ss_one (ss_ret DE.ok (s_call DE.ok (ok_cost_of kx G c) (hr.mono (by decide)) pasX rfl (He.glo_ok kx G (x := "cost_of") (c.a 52 rfl)) (sl_cons (vE 0) (sl_cons (se_tup (sl_cons (vE 1) (sl_cons (vE 2) sl_nil))) (sl_cons (vE 3) sl_nil)))))) ss_nil) (ss_one (ss_ret DE.ok (s_if DE.ok (st_w (sw_and (st_val (se_isi (isK_T tyT_tuple (ics_cons ⟨clsTB_ok (c.b 2 rfl), of_decide_eq_true (c.b 3 rfl)⟩ (ics_cons ⟨clsTB_ok (c.b 0 rfl), of_decide_eq_true (c.b 1 rfl)⟩ ics_nil))) (vB 3) (pe_tyN (n := "tuple") rfl (He.free_ok kx G (x := "tuple") (c.a 1 rfl)) (by decide +kernel)) (.ty "tuple") rfl (He.free_ok kx G (x := "isinstance") (c.a 2 rfl)))) (sw_and1 (st_cmp (op2_eq hr.units) (vB 3) (SE.b (se_tup sl_nil)) rfl)))) se_int se_non))))
theorem ok_shows_least (kx : K.In h) (G : h.Ns mainGlobals mg) (c : SaysMT fa fm fn ts w K) : FnK P w K mg base (DE K) 6 4 ((.g "shows_least" : Loc3).at_ K) [] c_shows_least := by
  obtain ⟨fd, F⟩ := c.d 36 (d := d_shows_least) rfl
  exact fnk_of (fin := endE) F sc_shows_least rfl (F.bindsN fun _ _ _ _ _ _ us hl => match us, hl with | [_, _, _, _], _ => rfl) .nil (fun _ _ => .nil) finE fun cdv A outer s H E hr =>
    (ss_cons (ss_if (st_w (sw_or (st_not (st_val (se_isi (isK_T tyT_tuple (ics_cons ⟨clsTB_ok (c.b 2 rfl), of_decide_eq_true (c.b 3 rfl)⟩ (ics_cons ⟨clsTB_ok (c.b 0 rfl), of_decide_eq_true (c.b 1 rfl)⟩ ics_nil))) (vB 3) (pe_tyN (n := "tuple") rfl (He.free_ok kx G (x := "tuple") (c.a 1 rfl)) (by decide +kernel)) (.ty "tuple") rfl (He.free_ok kx G (x := "isinstance") (c.a 2 rfl))))) (sw_or1 (st_cmp (op2_ne hr.units) (SE.b (s_callB DE.ok call_lenS rfl (He.free_ok kx G (x := "len") (c.a 3 rfl)) (by decide +kernel) (slb_cons (vB 3) slb_nil))) (SE.b se_int) rfl)))) (ss_one (ss_ret DE.ok (se_and (se_isi (isK_T tyT_tuple (ics_cons ⟨clsTB_ok (c.b 2 rfl), of_decide_eq_true (c.b 3 rfl)⟩ (ics_cons ⟨clsTB_ok (c.b 0 rfl), of_decide_eq_true (c.b 1 rfl)⟩ ics_nil))) (vB 3) (pe_tyN (n := "tuple") rfl (He.free_ok kx G (x := "tuple") (c.a 1 rfl)) (by decide +kernel)) (.ty "tuple") rfl (He.free_ok kx G (x := "isinstance") (c.a 2 rfl))) (se_and (s_cmp DE.ok (op2_eq hr.units) (vB 3) (SE.b (se_tup sl_nil)) rfl) (se_one (s_cmp DE.ok op2_le (vB 2) (SE.b se_int) rfl)))))) ss_nil) (ss_cons (ss_if (st_w (sw_or (st_not (st_val (s_call DE.ok (ok_is_haul kx G c) (hr.mono (by decide)) pasX rfl (He.glo_ok kx G (x := "is_haul") (c.a 19 rfl)) (sl_cons (s_ix (u1 hr) (vB 3) (SE.b se_int)) (sl_cons (s_attrB DE.ok (op1_fld (He.cls_ok (x := "Question") (c.a 30 rfl)) (He.noat_ok (x := "Question") (f := "line") (c.a 31 rfl))) (vB 0)) sl_nil))))) (sw_or1 (st_not (st_val (s_call DE.ok (ok_is_beside kx G c) (hr.mono (by decide)) pasX rfl (He.glo_ok kx G (x := "is_beside") (c.a 53 rfl)) (sl_cons (vE 0) (sl_cons (vE 1) (sl_cons (s_ix (u1 hr) (vB 3) (SE.b se_int)) sl_nil))))))))) (ss_one (ss_ret DE.ok se_bl)) ss_nil) (ss_cons (ss_set (i := 4) sc_shows_least.nd rfl (by first | exact Or.inl rfl | exact Or.inr rfl) (s_call DE.ok (ok_stretch_cost kx G c) (hr.mono (by decide)) pasX rfl (He.glo_ok kx G (x := "stretch_cost") (c.a 54 rfl)) (sl_cons (vE 0) (sl_cons (s_ix (u1 hr) (SE.b (s_ix (u1 hr) (vB 3) (SE.b se_int))) (SE.b se_int)) (sl_cons (s_ix (u1 hr) (vB 1) (SE.b se_int)) (sl_cons (s_ix (u1 hr) (vB 3) (SE.b se_int)) sl_nil)))))) (ss_cons (ss_set (i := 5) sc_shows_least.nd rfl (by first | exact Or.inl rfl | exact Or.inr rfl) (s_call DE.ok (ok_stretch_cost kx G c) (hr.mono (by decide)) pasX rfl (He.glo_ok kx G (x := "stretch_cost") (c.a 54 rfl)) (sl_cons (vE 0) (sl_cons (s_ix (u1 hr) (vB 1) (SE.b se_int)) (sl_cons (s_ix (u1 hr) (SE.b (s_ix (u1 hr) (vB 3) (SE.b se_int))) (SE.b se_int)) (sl_cons (s_ix (u1 hr) (vB 3) (SE.b se_int)) sl_nil)))))) (ss_one (ss_ret DE.ok (se_and (s_cmp DE.ok op2_notN (vB 4) (SE.b se_non) rfl) (se_and (s_cmp DE.ok op2_notN (vB 5) (SE.b se_non) rfl) (se_one (s_cmp DE.ok op2_ge (SE.b (s_bin DE.ok op2_sub (SE.b (s_bin DE.ok op2_sub (SE.b (s_ix (u1 hr) (SE.b (s_attrB DE.ok (op1_fld (He.cls_ok (x := "Question") (c.a 30 rfl)) (He.noat_ok (x := "Question") (f := "least") (c.a 36 rfl))) (vB 0))) (SE.b (s_ix (u1 hr) (vB 3) (SE.b se_int))))) (vB 4))) (vB 5))) (vB 2) rfl))))))))))
theorem ok_least_shown (kx : K.In h) (G : h.Ns mainGlobals mg) (c : SaysMT fa fm fn ts w K) : FnK P w K mg base (DE K) 7 3 ((.g "least_shown" : Loc3).at_ K) [] c_least_shown := by
  obtain ⟨fd, F⟩ := c.d 37 (d := d_least_shown) rfl
  exact fnk_of (fin := endE) F sc_least_shown rfl (F.bindsN fun _ _ _ _ _ _ us hl => match us, hl with | [_, _, _], _ => rfl) .nil (fun _ _ => .nil) finE fun cdv A outer s H E hr =>
    (ss_one (ss_ret DE.ok (s_call DE.ok (ok_shows_least kx G c) (hr.mono (by decide)) pasX rfl (He.glo_ok kx G (x := "shows_least") (c.a 55 rfl)) (sl_cons (vE 0) (sl_cons (s_ix (u1 hr) (vB 1) (SE.b se_int)) (sl_cons (s_ix (u1 hr) (vB 1) (SE.b se_int)) (sl_cons (vE 2) sl_nil)))))))
theorem ok_can_shown (kx : K.In h) (G : h.Ns mainGlobals mg) (c : SaysMT fa fm fn ts w K) : FnK P w K mg base (DE K) 5 3 ((.g "can_shown" : Loc3).at_ K) [] c_can_shown := by
  obtain ⟨fd, F⟩ := c.d 38 (d := d_can_shown) rfl
  exact fnk_of (fin := endE) F sc_can_shown rfl (F.bindsN fun _ _ _ _ _ _ us hl => match us, hl with | [_, _, _], _ => rfl) .nil (fun _ _ => .nil) finE fun cdv A outer s H E hr =>
    (ss_one (ss_ret DE.ok (se_and (s_call DE.ok (ok_is_fitting kx G c) (hr.mono (by decide)) pasX rfl (He.glo_ok kx G (x := "is_fitting") (c.a 48 rfl)) (sl_cons (vE 0) (sl_cons (vE 2) sl_nil))) (se_one (s_cmp DE.ok (op2_eq hr.units) (SE.b (s_ix (u1 hr) (SE.b (s_call DE.ok (ok_costs_in kx G c) (hr.mono (by decide)) pasX rfl (He.glo_ok kx G (x := "costs_in") (c.a 44 rfl)) (sl_cons (vE 2) sl_nil))) (SE.b (s_ix (u1 hr) (vB 1) (SE.b se_int))))) (SE.b (s_ix (u1 hr) (vB 1) (SE.b se_int))) rfl)))))
theorem ok_lowest_shown (kx : K.In h) (G : h.Ns mainGlobals mg) (c : SaysMT fa fm fn ts w K) : FnK P w K mg base (DE K) 7 3 ((.g "lowest_shown" : Loc3).at_ K) [] c_lowest_shown := by
  obtain ⟨fd, F⟩ := c.d 39 (d := d_lowest_shown) rfl
  exact fnk_of (fin := endE) F sc_lowest_shown rfl (F.bindsN fun _ _ _ _ _ _ us hl => match us, hl with | [_, _, _], _ => rfl) .nil (fun _ _ => .nil) finE fun cdv A outer s H E hr =>
    (ss_cons (ss_if (st_w (sw_or (st_not (st_val (se_isi (isK_T tyT_tuple (ics_cons ⟨clsTB_ok (c.b 2 rfl), of_decide_eq_true (c.b 3 rfl)⟩ (ics_cons ⟨clsTB_ok (c.b 0 rfl), of_decide_eq_true (c.b 1 rfl)⟩ ics_nil))) (vB 2) (pe_tyN (n := "tuple") rfl (He.free_ok kx G (x := "tuple") (c.a 1 rfl)) (by decide +kernel)) (.ty "tuple") rfl (He.free_ok kx G (x := "isinstance") (c.a 2 rfl))))) (sw_or (st_cmp (op2_ne hr.units) (SE.b (s_callB DE.ok call_lenS rfl (He.free_ok kx G (x := "len") (c.a 3 rfl)) (by decide +kernel) (slb_cons (vB 2) slb_nil))) (SE.b se_int) rfl) (sw_or1 (st_not (st_val (s_call DE.ok (ok_is_fitting kx G c) (hr.mono (by decide)) pasX rfl (He.glo_ok kx G (x := "is_fitting") (c.a 48 rfl)) (sl_cons (vE 0) (sl_cons (s_ix (u1 hr) (vB 2) (SE.b se_int)) sl_nil))))))))) (ss_one (ss_ret DE.ok se_bl)) ss_nil) (ss_cons (ss_setT (tgs_cons (j := 3) (tgs_cons (j := 4) (tgs_cons (j := 5) tgs_nil))) rfl (pg_tup rfl (pgs_cons (pgN 3 sc_lowest_shown.nd) (pgs_cons (pgN 4 sc_lowest_shown.nd) (pgs_cons (pgN 5 sc_lowest_shown.nd) pgs_nil)))) (se_tup (sl_cons (s_call DE.ok (ok_hauls_of kx G c) (hr.mono (by decide)) pasX rfl (He.glo_ok kx G (x := "hauls_of") (c.a 34 rfl)) (sl_cons (s_attrB DE.ok (op1_fld (He.cls_ok (x := "Question") (c.a 30 rfl)) (He.noat_ok (x := "Question") (f := "line") (c.a 31 rfl))) (vB 0)) sl_nil)) (sl_cons (s_call DE.ok (ok_costs_in kx G c) (hr.mono (by decide)) pasX rfl (He.glo_ok kx G (x := "costs_in") (c.a 44 rfl)) (sl_cons (s_ix (u1 hr) (vB 2) (SE.b se_int)) sl_nil)) (sl_cons (s_ix (u1 hr) (vB 2) (SE.b se_int)) sl_nil))))) (ss_cons (ss_if (st_w (sw_or (st_not (st_val (se_isi (isK_T tyT_tuple (ics_cons ⟨clsTB_ok (c.b 2 rfl), of_decide_eq_true (c.b 3 rfl)⟩ (ics_cons ⟨clsTB_ok (c.b 0 rfl), of_decide_eq_true (c.b 1 rfl)⟩ ics_nil))) (vB 5) (pe_tyN (n := "tuple") rfl (He.free_ok kx G (x := "tuple") (c.a 1 rfl)) (by decide +kernel)) (.ty "tuple") rfl (He.free_ok kx G (x := "isinstance") (c.a 2 rfl))))) (sw_or1 (st_cmp (op2_ne hr.units) (SE.b (s_callB DE.ok call_lenS rfl (He.free_ok kx G (x := "len") (c.a 3 rfl)) (by decide +kernel) (slb_cons (vB 5) slb_nil))) (SE.b (s_callB DE.ok call_lenS rfl (He.free_ok kx G (x := "len") (c.a 3 rfl)) (by decide +kernel) (slb_cons (vB 3) slb_nil))) rfl)))) (ss_one (ss_ret DE.ok se_bl)) ss_nil) (ss_one (ss_ret DE.ok (s_callB DE.ok (call_allS rfl) rfl (He.free_ok kx G (x := "all") (c.a 10 rfl)) (by decide +kernel) (slb_cons (SE.b (SO.e (so_lc rfl sc_lowest_shown.nd (SI.any (si_zip (vE 3) (vE 5) rfl (He.free_ok kx G (x := "zip") (c.a 56 rfl)))) (own := [(("haul" : Str), 6), (("paper" : Str), 7)]) (blkOk_by (by kernel_rfl)) (tg_t (tgs_cons (j := 6) (tgs_cons (j := 7) tgs_nil)) rfl) (by decide) (fun s0 H0 C0 cl0 fp0 => (pg_tup rfl (pgs_cons (pgN 6 sc_lowest_shown.nd) (pgs_cons (pgN 7 sc_lowest_shown.nd) pgs_nil)))) (fun s0 H0 C0 cl0 fp0 => sts_nil) (fun s0 H0 C0 cl0 fp0 => (s_call DE.ok (ok_shows_least kx G c) (hr.mono (by decide)) pas_no rfl (He.glo_ok kx G (x := "shows_least") (c.a 55 rfl)) (sl_cons (vE 0) (sl_cons (vE 6) (sl_cons (s_ix (u1 hr) (vB 4) (vB 6)) (sl_cons (vE 7) sl_nil))))))))) slb_nil)))))))
theorem ok_no_lowest_shown (kx : K.In h) (G : h.Ns mainGlobals mg) (c : SaysMT fa fm fn ts w K) : FnK P w K mg base (DE K) 7 3 ((.g "no_lowest_shown" : Loc3).at_ K) [] c_no_lowest_shown := by
  obtain ⟨fd, F⟩ := c.d 40 (d := d_no_lowest_shown) rfl
  exact fnk_of (fin := endE) F sc_no_lowest_shown rfl (F.bindsN fun _ _ _ _ _ _ us hl => match us, hl with | [_, _, _], _ => rfl) .nil (fun _ _ => .nil) finE fun cdv A outer s H E hr =>
    (ss_cons (ss_if (st_w (sw_or (st_not (st_val (se_isi (isK_T tyT_tuple (ics_cons ⟨clsTB_ok (c.b 2 rfl), of_decide_eq_true (c.b 3 rfl)⟩ (ics_cons ⟨clsTB_ok (c.b 0 rfl), of_decide_eq_true (c.b 1 rfl)⟩ ics_nil))) (vB 2) (pe_tyN (n := "tuple") rfl (He.free_ok kx G (x := "tuple") (c.a 1 rfl)) (by decide +kernel)) (.ty "tuple") rfl (He.free_ok kx G (x := "isinstance") (c.a 2 rfl))))) (sw_or (st_cmp (op2_ne hr.units) (SE.b (s_callB DE.ok call_lenS rfl (He.free_ok kx G (x := "len") (c.a 3 rfl)) (by decide +kernel) (slb_cons (vB 2) slb_nil))) (SE.b se_int) rfl) (sw_or1 (st_not (st_val (s_callB DE.ok (call_allS rfl) rfl (He.free_ok kx G (x := "all") (c.a 10 rfl)) (by decide +kernel) (slb_cons (SE.b (SO.e (so_lc rfl sc_no_lowest_shown.nd (SI.any (si_seq (se_sl (vB 2) sp_none (sp_some se_int)))) (own := [(("stop" : Str), 7)]) (blkOk_by (by kernel_rfl)) (tg_n (j := 7)) (by decide) (fun s0 H0 C0 cl0 fp0 => (pgN 7 sc_no_lowest_shown.nd)) (fun s0 H0 C0 cl0 fp0 => sts_nil) (fun s0 H0 C0 cl0 fp0 => (s_call DE.ok (ok_is_integer kx G c) (hr.mono (by decide)) pas_no rfl (He.glo_ok kx G (x := "is_integer") (c.a 18 rfl)) (sl_cons (vE 7) sl_nil)))))) slb_nil)))))))) (ss_one (ss_ret DE.ok se_bl)) ss_nil) (ss_cons (ss_setT (tgs_cons (j := 3) (tgs_cons (j := 4) (tgs_cons (j := 5) tgs_nil))) rfl (pg_tup rfl (pgs_cons (pgN 3 sc_no_lowest_shown.nd) (pgs_cons (pgN 4 sc_no_lowest_shown.nd) (pgs_cons (pgN 5 sc_no_lowest_shown.nd) pgs_nil)))) (se_sl (vB 2) sp_none (sp_some se_int))) (ss_cons (ss_if (st_not (st_ch4 op2_le (op2_lt hr.units0) (op2_lt hr.units0) (op2_lt hr.units0) (SE.b se_int) (vB 3) (vB 4) (vB 5) (SE.b (s_attrB DE.ok (op1_fld (He.cls_ok (x := "Question") (c.a 30 rfl)) (He.noat_ok (x := "Question") (f := "line") (c.a 31 rfl))) (vB 0))))) (ss_one (ss_ret DE.ok se_bl)) ss_nil) (ss_cons (ss_if (st_w (sw_or (st_not (st_val (s_call DE.ok (ok_is_fitting kx G c) (hr.mono (by decide)) pasX rfl (He.glo_ok kx G (x := "is_fitting") (c.a 48 rfl)) (sl_cons (vE 0) (sl_cons (s_ix (u1 hr) (vB 2) (SE.b se_int)) sl_nil))))) (sw_or1 (st_not (st_val (s_call DE.ok (ok_is_fitting kx G c) (hr.mono (by decide)) pasX rfl (He.glo_ok kx G (x := "is_fitting") (c.a 48 rfl)) (sl_cons (vE 0) (sl_cons (s_ix (u1 hr) (vB 2) (SE.b se_int)) sl_nil)))))))) (ss_one (ss_ret DE.ok se_bl)) ss_nil) (ss_cons (ss_set (i := 6) sc_no_lowest_shown.nd rfl (by first | exact Or.inl rfl | exact Or.inr rfl) (s_bin DE.ok op2_add (SE.b (s_ix (u1 hr) (SE.b (s_call DE.ok (ok_costs_in kx G c) (hr.mono (by decide)) pasX rfl (He.glo_ok kx G (x := "costs_in") (c.a 44 rfl)) (sl_cons (s_ix (u1 hr) (vB 2) (SE.b se_int)) sl_nil))) (SE.b (se_tup (sl_cons (vE 3) (sl_cons (vE 4) sl_nil)))))) (SE.b (s_ix (u1 hr) (SE.b (s_call DE.ok (ok_costs_in kx G c) (hr.mono (by decide)) pasX rfl (He.glo_ok kx G (x := "costs_in") (c.a 44 rfl)) (sl_cons (s_ix (u1 hr) (vB 2) (SE.b se_int)) sl_nil))) (SE.b (se_tup (sl_cons (vE 4) (sl_cons (vE 5) sl_nil)))))))) (ss_one (ss_ret DE.ok (s_call DE.ok (ok_shows_least kx G c) (hr.mono (by decide)) pasX rfl (He.glo_ok kx G (x := "shows_least") (c.a 55 rfl)) (sl_cons (vE 0) (sl_cons (se_tup (sl_cons (vE 3) (sl_cons (vE 5) sl_nil))) (sl_cons (s_bin DE.ok op2_add (vB 6) (SE.b se_int)) (sl_cons (s_ix (u1 hr) (vB 2) (SE.b se_int)) sl_nil))))))))))))
theorem okf_accepts {fd : FuncData} (kx : K.In h) (G : h.Ns mainGlobals mg) (c : SaysMT fa fm fn ts w K) (F : FunD K d_accepts.name d_accepts.qual d_accepts.params d_accepts.body d_accepts.scope (d_accepts.dvs K) (d_accepts.kws K) (d_accepts.loc.at_ K) fd) : MP.FnOk P w K mg base (L2.CX P w) 10 (d_accepts.loc.at_ K) fd [("claim" : Str), ("certificate" : Str)] (spD K (DE K) 2 c_accepts) :=
  fnok_of (fin := endE) F sc_accepts rfl finE fun cdv A outer s H E hr =>
    (ss_cons (ss_set (i := 2) sc_accepts.nd rfl (by first | exact Or.inl rfl | exact Or.inr rfl) (s_call DE.ok (ok_question_in kx G c) (hr.mono (by decide)) pasX rfl (He.glo_ok kx G (x := "question_in") (c.a 41 rfl)) (sl_cons (vE 0) sl_nil))) (ss_cons (ss_if (st_cmp op2_isN (vB 2) (SE.b se_non) rfl) (ss_one (ss_ret DE.ok se_bl)) ss_nil) (ss_cons (ss_set (i := 3) sc_accepts.nd rfl (by first | exact Or.inl rfl | exact Or.inr rfl) (se_tabIx (c.t 1 rfl) (pe_own (He.glo_ok kx G (x := "SHOWN") (c.a 42 rfl))) (s_ix (u1 hr) (vB 0) (SE.b se_int)))) (ss_one (ss_ret DE.ok (se_loc (i := 3) (.cons (x := "fits_shown") (ok_fits_shown kx G c) (hr.mono (by decide)) (.cons (x := "none_shown") (ok_none_shown kx G c) (hr.mono (by decide)) (.cons (x := "most_shown") (ok_most_shown kx G c) (hr.mono (by decide)) (.cons (x := "least_shown") (ok_least_shown kx G c) (hr.mono (by decide)) (.cons (x := "can_shown") (ok_can_shown kx G c) (hr.mono (by decide)) (.cons (x := "lowest_shown") (ok_lowest_shown kx G c) (hr.mono (by decide)) (.cons (x := "no_lowest_shown") (ok_no_lowest_shown kx G c) (hr.mono (by decide)) .nil))))))) pasX rfl (by first | exact Or.inl rfl | exact Or.inr (Or.inl rfl)) (sl_cons (vE 2) (sl_cons (vE 0) (sl_cons (vE 1) sl_nil)))))))))
theorem ok_accepts (kx : K.In h) (G : h.Ns mainGlobals mg) (c : SaysMT fa fm fn ts w K) : FnK P w K mg base (DE K) 10 2 ((d_accepts.loc).at_ K) [] c_accepts := by
  obtain ⟨fd, F⟩ := c.d 41 (d := d_accepts) rfl
  exact ⟨fd, _, [], [], okf_accepts kx G c F, F.bindsN fun _ _ _ _ _ _ us hl => match us, hl with | [_, _], _ => rfl, .nil, fun _ _ => .nil, F.kp⟩
theorem okq_accepts_0 (kx : K.In h) (G : h.Ns mainGlobals mg) (c : SaysMT fa fm fn ts w K) : FnQ P w K mg base (DE K) 10 2 0 [("certificate" : Str), ("claim" : Str)] [1, 0] ((d_accepts.loc).at_ K) [] c_accepts := by
  obtain ⟨fd, F⟩ := c.d 41 (d := d_accepts) rfl
  exact fnq_of F (okf_accepts kx G c F) fun _ _ _ _ _ _ us ws hl hw => match us, ws, hl, hw with | [], [_, _], _, _ => rfl
theorem ok__law_draw (kx : K.In h) (G : h.Ns mainGlobals mg) (c : SaysMT fa fm fn ts w K) : FnK P w K mg base (DE K) 1 2 ((.g "_law_draw" : Loc3).at_ K) [] c__law_draw := by
  obtain ⟨fd, F⟩ := c.d 42 (d := d__law_draw) rfl
  exact fnk_of (fin := endE) F sc__law_draw rfl (F.bindsN fun _ _ _ _ _ _ us hl => match us, hl with | [_, _], _ => rfl) .nil (fun _ _ => .nil) finE fun cdv A outer s H E hr =>
    (ss_cons (ss_sub (i := 0) (u1 hr) rfl (by first | exact Or.inl rfl | exact Or.inr (Or.inl rfl)) se_int (s_bin DE.ok op2_add (SE.b (s_ix (u1 hr) (vB 0) (SE.b se_int))) (SE.b se_int))) (ss_cons (ss_if (st_cmp op2_gt (SE.b (s_ix (u1 hr) (vB 0) (SE.b se_int))) (SE.b se_int) rfl) (ss_cons (ss_set (i := 2) sc__law_draw.nd rfl (by first | exact Or.inl rfl | exact Or.inr rfl) (s_bin DE.ok op2_mod (SE.b (s_callTy DE.ok call_intS rfl (He.free_ok kx G (x := "int") (c.a 11 rfl)) (by decide +kernel) (slb_cons (SE.b (s_ix (u1 hr) (vB 0) (SE.b se_int))) slb_nil))) (vB 1))) (ss_cons (ss_sub (i := 0) (u1 hr) rfl (by first | exact Or.inl rfl | exact Or.inr (Or.inl rfl)) se_int (s_bin DE.ok op2_div (SE.b (s_callTy DE.ok call_intS rfl (He.free_ok kx G (x := "int") (c.a 11 rfl)) (by decide +kernel) (slb_cons (SE.b (s_ix (u1 hr) (vB 0) (SE.b se_int))) slb_nil))) (vB 1))) (ss_one (ss_ret DE.ok (vE 2))))) ss_nil) (ss_cons (ss_set (i := 3) sc__law_draw.nd rfl (by first | exact Or.inl rfl | exact Or.inr rfl) (s_callTy DE.ok call_intS rfl (He.free_ok kx G (x := "int") (c.a 11 rfl)) (by decide +kernel) (slb_cons (SE.b (s_ix (u1 hr) (vB 0) (SE.b se_int))) slb_nil))) (ss_cons (ss_sub (i := 0) (u1 hr) rfl (by first | exact Or.inl rfl | exact Or.inr (Or.inl rfl)) se_int (s_bin DE.ok op2_mod (SE.b (s_callTy DE.ok call_intS rfl (He.free_ok kx G (x := "int") (c.a 11 rfl)) (by decide +kernel) (slb_cons (SE.b (s_bin DE.ok op2_add (SE.b (s_bin DE.ok op2_add (SE.b (s_bin DE.ok op2_mul (vB 3) (SE.b se_int))) (SE.b (s_bin DE.ok op2_mul (SE.b (s_ix (u1 hr) (vB 0) (SE.b se_int))) (SE.b se_int))))) (SE.b se_int))) slb_nil))) (SE.b se_int))) (ss_one (ss_ret DE.ok (s_bin DE.ok op2_mod (SE.b (s_callTy DE.ok call_intS rfl (He.free_ok kx G (x := "int") (c.a 11 rfl)) (by decide +kernel) (slb_cons (SE.b (s_bin DE.ok op2_div (SE.b (s_ix (u1 hr) (vB 0) (SE.b se_int))) (SE.b se_int))) slb_nil))) (vB 1))))))))
theorem ok__law_pick (kx : K.In h) (G : h.Ns mainGlobals mg) (c : SaysMT fa fm fn ts w K) : FnK P w K mg base (DE K) 2 2 ((.g "_law_pick" : Loc3).at_ K) [] c__law_pick := by
  obtain ⟨fd, F⟩ := c.d 43 (d := d__law_pick) rfl
  exact fnk_of (fin := endE) F sc__law_pick rfl (F.bindsN fun _ _ _ _ _ _ us hl => match us, hl with | [_, _], _ => rfl) .nil (fun _ _ => .nil) finE fun cdv A outer s H E hr =>
    (ss_cons (ss_set (i := 2) sc__law_pick.nd rfl (by first | exact Or.inl rfl | exact Or.inr rfl) (s_call DE.ok (ok__law_draw kx G c) (hr.mono (by decide)) pasX rfl (He.glo_ok kx G (x := "_law_draw") (c.a 59 rfl)) (sl_cons (vE 0) (sl_cons (s_callB DE.ok call_lenS rfl (He.free_ok kx G (x := "len") (c.a 3 rfl)) (by decide +kernel) (slb_cons (vB 1) slb_nil)) sl_nil)))) (ss_one (ss_ret DE.ok (s_ix (u1 hr) (vB 1) (vB 2)))))
theorem ok_check_rules (kx : K.In h) (G : h.Ns mainGlobals mg) (c : SaysMT fa fm fn ts w K) : FnK P w K mg base (DE K) 2 1 ((.g "check_rules" : Loc3).at_ K) [] c_check_rules := by
  obtain ⟨fd, F⟩ := c.d 44 (d := d_check_rules) rfl
  exact fnk_of (fin := endE) F sc_check_rules rfl (F.bindsN fun _ _ _ _ _ _ us hl => match us, hl with | [_], _ => rfl) .nil (fun _ _ => .nil) finE fun cdv A outer s H E hr =>
    (ss_one (ss_if (st_not (st_val (s_call DE.ok (ok_is_rules kx G c) (hr.mono (by decide)) pasX rfl (He.glo_ok kx G (x := "is_rules") (c.a 7 rfl)) (sl_cons (vE 0) sl_nil)))) (ss_one ss_never) ss_nil))
theorem okf_Ledger___init__ {fd : FuncData} (kx : K.In h) (G : h.Ns mainGlobals mg) (c : SaysMT fa fm fn ts w K) (F : FunD K d_Ledger___init__.name d_Ledger___init__.qual d_Ledger___init__.params d_Ledger___init__.body d_Ledger___init__.scope (d_Ledger___init__.dvs K) (d_Ledger___init__.kws K) (d_Ledger___init__.loc.at_ K) fd) : MP.FnOk P w K mg base (L2.CX P w) 7 (d_Ledger___init__.loc.at_ K) fd [("self" : Str), ("stops" : Str), ("rules" : Str)] (spI K "Ledger" 2 c_Ledger___init__) :=
  fnoki_of F sc_Ledger___init__ rfl fun cdv A outer s H E hr =>
    (ss_cons (ss_expr (s_call DE.ok (ok_check_stops kx G c) (hr.mono (by decide)) pasX rfl (He.glo_ok kx G (x := "check_stops") (c.a 25 rfl)) (sl_cons (vE 1) sl_nil))) (ss_cons (ss_expr (s_call DE.ok (ok_check_rules kx G c) (hr.mono (by decide)) pasX rfl (He.glo_ok kx G (x := "check_rules") (c.a 61 rfl)) (sl_cons (vE 2) sl_nil))) (ss_cons (ss_fld (i := 0) rfl (by first | exact Or.inl rfl | exact Or.inr (Or.inl rfl)) (vE 2) (He.cls_ok (x := "Ledger") (c.a 62 rfl)) (He.noat_ok (x := "Ledger") (f := "word") (c.a 63 rfl))) (ss_one (ss_fld (i := 0) rfl (by first | exact Or.inl rfl | exact Or.inr (Or.inl rfl)) (se_tup (sl_cons (SO.e (so_make (okd_Bounds___init__ kx G c) (hr.mono (by decide)) pasX rfl (He.glo_ok kx G (x := "Bounds") (c.a 28 rfl)) (sl_cons (vE 1) sl_nil))) (sl_cons (se_tup sl_nil) sl_nil))) (He.cls_ok (x := "Ledger") (c.a 62 rfl)) (He.noat_ok (x := "Ledger") (f := "state") (c.a 64 rfl)))))))
theorem ok_Ledger___init__ (kx : K.In h) (G : h.Ns mainGlobals mg) (c : SaysMT fa fm fn ts w K) : InK P w K mg base 7 2 "Ledger" ((d_Ledger___init__.loc).at_ K) [.str "both"] c_Ledger___init__ := by
  obtain ⟨fd, F⟩ := c.d 45 (d := d_Ledger___init__) rfl
  obtain ⟨ds, hv, hb⟩ := FunD.binds0 (ps := [("self" : Str), ("stops" : Str), ("rules" : Str)]) F 2 (List.cons_ne_nil _ _) rfl (fun _ _ _ _ _ _ us ks hl hk => match us, ks, hl, hk with | [_, _], [_], _, _ => ⟨_, _, _, _, _, _, rfl, rfl, rfl⟩)
  exact ⟨(He.mkr_ok (x := "Ledger") (c.a 73 rfl)), fd, _, _, ds, okf_Ledger___init__ kx G c F, hb, hv, fun _ _ => (.cons (by first | exact .str | exact .int) .nil)⟩
theorem ok__law_text_like (kx : K.In h) (G : h.Ns mainGlobals mg) (c : SaysMT fa fm fn ts w K) : FnK P w K mg base (DE K) 9 1 ((.g "_law_text_like" : Loc3).at_ K) [] c__law_text_like := by
  obtain ⟨fd, F⟩ := c.d 46 (d := d__law_text_like) rfl
  exact fnk_of (fin := endE) F sc__law_text_like rfl (F.bindsN fun _ _ _ _ _ _ us hl => match us, hl with | [_], _ => rfl) .nil (fun _ _ => .nil) finE fun cdv A outer s H E hr =>
    (ss_cons (ss_own (i := 1) sc__law_text_like.nd rfl (by first | exact Or.inl rfl | exact Or.inr rfl) (so_lst (sl_cons se_str (sl_cons se_str (sl_cons se_str (sl_cons se_str (sl_cons se_str (sl_cons se_str (sl_cons se_str (sl_cons se_str (sl_cons se_str (sl_cons se_str sl_nil)))))))))))) (ss_cons (ss_app (i := 1) rfl (by first | exact Or.inl rfl | exact Or.inr (Or.inl rfl)) se_str) (ss_cons (ss_own (i := 1) sc__law_text_like.nd rfl (by first | exact Or.inl rfl | exact Or.inr rfl) (s_bin DO.ok op2_addO (vB 1) (SE.b (SO.e (so_lst (sl_cons se_str (sl_cons se_str (sl_cons se_str (sl_cons se_str (sl_cons se_str (sl_cons se_str sl_nil))))))))))) (ss_cons (ss_own (i := 1) sc__law_text_like.nd rfl (by first | exact Or.inl rfl | exact Or.inr rfl) (s_bin DO.ok op2_addO (vB 1) (SE.b (SO.e (so_lst (sl_cons se_str (sl_cons se_str (sl_cons se_str (sl_cons se_str (sl_cons se_str sl_nil)))))))))) (ss_cons (ss_own (i := 1) sc__law_text_like.nd rfl (by first | exact Or.inl rfl | exact Or.inr rfl) (s_bin DO.ok op2_addO (vB 1) (SE.b (SO.e (so_lst (sl_cons se_str (sl_cons se_str (sl_cons se_str (sl_cons se_str sl_nil))))))))) (ss_cons (ss_own (i := 1) sc__law_text_like.nd rfl (by first | exact Or.inl rfl | exact Or.inr rfl) (s_bin DO.ok op2_addO (vB 1) (SE.b (SO.e (so_lst (sl_cons se_str (sl_cons se_str (sl_cons se_str (sl_cons se_str sl_nil))))))))) (ss_cons (ss_own (i := 1) sc__law_text_like.nd rfl (by first | exact Or.inl rfl | exact Or.inr rfl) (s_bin DO.ok op2_addO (vB 1) (SE.b (SO.e (so_lst (sl_cons se_non (sl_cons se_int (sl_cons se_bl (sl_cons (se_tup (sl_cons se_str sl_nil)) (sl_cons (SO.e (so_lst (sl_cons se_str sl_nil))) (sl_cons (SO.e (so_make (okd_Bounds___init__ kx G c) (hr.mono (by decide)) pasX rfl (He.glo_ok kx G (x := "Bounds") (c.a 28 rfl)) (sl_cons se_int sl_nil))) (sl_cons (SO.e (so_make (ok_Ledger___init__ kx G c) (hr.mono (by decide)) pasX rfl (He.glo_ok kx G (x := "Ledger") (c.a 65 rfl)) (sl_cons se_int sl_nil))) (sl_cons (SO.e so_dK) (sl_cons (se_tup sl_nil) (sl_cons se_str sl_nil))))))))))))))) (ss_cons (ss_app (i := 1) rfl (by first | exact Or.inl rfl | exact Or.inr (Or.inl rfl)) se_str) (ss_one (ss_ret DE.ok (s_ix (u1 hr) (vB 1) (SE.b (s_call DE.ok (ok__law_draw kx G c) (hr.mono (by decide)) pasX rfl (He.glo_ok kx G (x := "_law_draw") (c.a 59 rfl)) (sl_cons (vE 0) (sl_cons (s_callB DE.ok call_lenS rfl (He.free_ok kx G (x := "len") (c.a 3 rfl)) (by decide +kernel) (slb_cons (vB 1) slb_nil)) sl_nil)))))))))))))))
theorem ok__law_wrong (kx : K.In h) (G : h.Ns mainGlobals mg) (c : SaysMT fa fm fn ts w K) : FnK P w K mg base (DE K) 10 3 ((.g "_law_wrong" : Loc3).at_ K) [] c__law_wrong := by
  obtain ⟨fd, F⟩ := c.d 47 (d := d__law_wrong) rfl
  exact fnk_of (fin := endE) F sc__law_wrong rfl (F.bindsN fun _ _ _ _ _ _ us hl => match us, hl with | [_, _, _], _ => rfl) .nil (fun _ _ => .nil) finE fun cdv A outer s H E hr =>
    (ss_cons (ss_set (i := 3) sc__law_wrong.nd rfl (by first | exact Or.inl rfl | exact Or.inr rfl) (s_call DE.ok (ok__law_draw kx G c) (hr.mono (by decide)) pasX rfl (He.glo_ok kx G (x := "_law_draw") (c.a 59 rfl)) (sl_cons (vE 0) (sl_cons se_int sl_nil)))) (ss_cons (ss_if (st_cmp (op2_eq hr.units) (vB 3) (SE.b se_int) rfl) (ss_cons (ss_set (i := 4) sc__law_wrong.nd rfl (by first | exact Or.inl rfl | exact Or.inr rfl) (SO.e (so_lst (sl_cons se_non (sl_cons se_int (sl_cons se_str (sl_cons se_str (sl_cons (se_tup (sl_cons se_str sl_nil)) (sl_cons se_bl (sl_cons (SO.e (so_lst sl_nil)) (sl_cons (SO.e so_dK) (sl_cons se_str (sl_cons se_str (sl_cons se_str (sl_cons (SO.e (so_make (okd_Bounds___init__ kx G c) (hr.mono (by decide)) pasX rfl (He.glo_ok kx G (x := "Bounds") (c.a 28 rfl)) (sl_cons se_int sl_nil))) sl_nil))))))))))))))) (ss_one (ss_ret DE.ok (se_tup (sl_cons (s_bin DE.ok op2_add (SE.b (se_tup (sl_cons (s_call DE.ok (ok__law_pick kx G c) (hr.mono (by decide)) pasX rfl (He.glo_ok kx G (x := "_law_pick") (c.a 60 rfl)) (sl_cons (vE 0) (sl_cons (vE 4) sl_nil))) sl_nil))) (SE.b (se_sl (vB 1) (sp_some se_int) sp_none))) (sl_cons (vE 2) sl_nil)))))) ss_nil) (ss_cons (ss_if (st_cmp (op2_eq hr.units) (vB 3) (SE.b se_int) rfl) (ss_one (ss_ret DE.ok (se_tup (sl_cons (s_bin DE.ok op2_add (SE.b (s_bin DE.ok op2_add (SE.b (se_sl (vB 1) sp_none (sp_some se_int))) (SE.b (se_tup (sl_cons (s_call DE.ok (ok__law_text_like kx G c) (hr.mono (by decide)) pasX rfl (He.glo_ok kx G (x := "_law_text_like") (c.a 66 rfl)) (sl_cons (vE 0) sl_nil)) sl_nil))))) (SE.b (se_sl (vB 1) (sp_some se_int) sp_none))) (sl_cons (vE 2) sl_nil))))) ss_nil) (ss_cons (ss_if (st_cmp (op2_eq hr.units) (vB 3) (SE.b se_int) rfl) (ss_cons (ss_set (i := 4) sc__law_wrong.nd rfl (by first | exact Or.inl rfl | exact Or.inr rfl) (SO.e (so_lst (sl_cons se_non (sl_cons se_int (sl_cons se_str (sl_cons se_str (sl_cons (se_tup (sl_cons se_str sl_nil)) (sl_cons se_bl (sl_cons (SO.e (so_lst (sl_cons se_str sl_nil))) (sl_cons (SO.e so_dK) (sl_cons se_str (sl_cons se_str (sl_cons se_str (sl_cons se_str sl_nil))))))))))))))) (ss_one (ss_ret DE.ok (se_tup (sl_cons (s_bin DE.ok op2_add (SE.b (s_bin DE.ok op2_add (SE.b (se_sl (vB 1) sp_none (sp_some se_int))) (SE.b (se_tup (sl_cons (s_call DE.ok (ok__law_pick kx G c) (hr.mono (by decide)) pasX rfl (He.glo_ok kx G (x := "_law_pick") (c.a 60 rfl)) (sl_cons (vE 0) (sl_cons (vE 4) sl_nil))) sl_nil))))) (SE.b (se_sl (vB 1) (sp_some se_int) sp_none))) (sl_cons (vE 2) sl_nil)))))) ss_nil) (ss_cons (ss_if (st_w (sw_and (st_cmp (op2_eq hr.units) (vB 3) (SE.b se_int) rfl) (sw_and1 (st_cmp (op2_eq hr.units) (SE.b (s_callB DE.ok call_lenS rfl (He.free_ok kx G (x := "len") (c.a 3 rfl)) (by decide +kernel) (slb_cons (vB 1) slb_nil))) (SE.b se_int) rfl)))) (ss_cons (ss_set (i := 5) sc__law_wrong.nd rfl (by first | exact Or.inl rfl | exact Or.inr rfl) (SO.e (so_lst (sl_cons (se_tup (sl_cons se_int (sl_cons se_int sl_nil))) (sl_cons (se_tup (sl_cons se_int (sl_cons se_int sl_nil))) (sl_cons (se_tup (sl_cons se_int (sl_cons se_int sl_nil))) (sl_cons (se_tup (sl_cons (s_un DE.ok op1_neg (SE.b se_int)) (sl_cons se_int sl_nil))) (sl_cons (se_tup (sl_cons se_int sl_nil)) (sl_cons (se_tup (sl_cons se_int (sl_cons se_int (sl_cons se_int sl_nil)))) (sl_cons (SO.e (so_lst (sl_cons se_int (sl_cons se_int sl_nil)))) (sl_cons (se_tup (sl_cons se_int (sl_cons se_bl sl_nil))) (sl_cons (se_tup (sl_cons se_bl (sl_cons se_int sl_nil))) sl_nil)))))))))))) (ss_cons (ss_set (i := 5) sc__law_wrong.nd rfl (by first | exact Or.inl rfl | exact Or.inr rfl) (s_bin DE.ok op2_add (vB 5) (SE.b (SO.e (so_lst (sl_cons se_non (sl_cons se_str (sl_cons se_int (sl_cons (se_tup (sl_cons se_int (sl_cons se_str sl_nil))) (sl_cons (SO.e so_dK) sl_nil)))))))))) (ss_one (ss_ret DE.ok (se_tup (sl_cons (s_bin DE.ok op2_add (SE.b (se_sl (vB 1) sp_none (sp_some se_int))) (SE.b (se_tup (sl_cons (s_call DE.ok (ok__law_pick kx G c) (hr.mono (by decide)) pasX rfl (He.glo_ok kx G (x := "_law_pick") (c.a 60 rfl)) (sl_cons (vE 0) (sl_cons (vE 5) sl_nil))) (sl_cons (s_ix (u1 hr) (vB 1) (SE.b se_int)) sl_nil))))) (sl_cons (vE 2) sl_nil))))))) ss_nil) (ss_cons (ss_if (st_w (sw_and (st_cmp (op2_eq hr.units) (vB 3) (SE.b se_int) rfl) (sw_and1 (st_cmp (op2_eq hr.units) (SE.b (s_callB DE.ok call_lenS rfl (He.free_ok kx G (x := "len") (c.a 3 rfl)) (by decide +kernel) (slb_cons (vB 1) slb_nil))) (SE.b se_int) rfl)))) (ss_one (ss_ret DE.ok (se_tup (sl_cons (s_bin DE.ok op2_add (SE.b (se_sl (vB 1) sp_none (sp_some se_int))) (SE.b (se_tup (sl_cons (s_call DE.ok (ok__law_pick kx G c) (hr.mono (by decide)) pasX rfl (He.glo_ok kx G (x := "_law_pick") (c.a 60 rfl)) (sl_cons (vE 0) (sl_cons (SO.e (so_lst (sl_cons se_non (sl_cons se_bl (sl_cons se_bl (sl_cons se_str (sl_cons (se_tup (sl_cons se_int sl_nil)) (sl_cons (SO.e (so_lst sl_nil)) (sl_cons (SO.e so_dK) (sl_cons (SO.e (so_make (okd_Bounds___init__ kx G c) (hr.mono (by decide)) pasX rfl (He.glo_ok kx G (x := "Bounds") (c.a 28 rfl)) (sl_cons se_int sl_nil))) sl_nil)))))))))) sl_nil))) sl_nil)))) (sl_cons (vE 2) sl_nil))))) ss_nil) (ss_cons (ss_if (st_cmp (op2_lt hr.units0) (vB 3) (SE.b se_int) rfl) (ss_cons (ss_set (i := 6) sc__law_wrong.nd rfl (by first | exact Or.inl rfl | exact Or.inr rfl) (SO.e (so_lst (sl_cons (s_bin DE.ok op2_add (vB 1) (SE.b (se_tup (sl_cons se_non sl_nil)))) (sl_cons (se_sl (vB 1) sp_none (sp_some (s_un DE.ok op1_neg (SE.b se_int)))) (sl_cons (SO.e (s_callTy DO.ok call_lstS rfl (He.free_ok kx G (x := "list") (c.a 67 rfl)) (by decide +kernel) (slb_cons (vB 1) slb_nil))) (sl_cons (se_sl (vB 1) sp_none (sp_some se_int)) (sl_cons (se_sl (vB 1) sp_none (sp_some se_int)) (sl_cons (se_tup sl_nil) (sl_cons (s_bin DE.ok op2_add (vB 1) (SE.b (se_tup (sl_cons (s_ix (u1 hr) (vB 1) (SE.b (s_un DE.ok op1_neg (SE.b se_int)))) sl_nil)))) sl_nil)))))))))) (ss_one (ss_ret DE.ok (se_tup (sl_cons (s_call DE.ok (ok__law_pick kx G c) (hr.mono (by decide)) pasX rfl (He.glo_ok kx G (x := "_law_pick") (c.a 60 rfl)) (sl_cons (vE 0) (sl_cons (vE 6) sl_nil))) (sl_cons (vE 2) sl_nil)))))) ss_nil) (ss_cons (ss_if (st_cmp (op2_eq hr.units) (vB 3) (SE.b se_int) rfl) (ss_cons (ss_set (i := 6) sc__law_wrong.nd rfl (by first | exact Or.inl rfl | exact Or.inr rfl) (SO.e (so_lst (sl_cons se_non (sl_cons se_bl (sl_cons se_int (sl_cons se_str (sl_cons se_str (sl_cons (se_tup sl_nil) (sl_cons (SO.e (so_lst sl_nil)) (sl_cons (SO.e so_dK) (sl_cons (se_tup (sl_cons (se_tup sl_nil) sl_nil)) (sl_cons (SO.e (so_make (okd_Bounds___init__ kx G c) (hr.mono (by decide)) pasX rfl (He.glo_ok kx G (x := "Bounds") (c.a 28 rfl)) (sl_cons se_int sl_nil))) (sl_cons (SO.e (so_make (ok_Ledger___init__ kx G c) (hr.mono (by decide)) pasX rfl (He.glo_ok kx G (x := "Ledger") (c.a 65 rfl)) (sl_cons se_int sl_nil))) (sl_cons (se_tup (sl_cons (vE 1) sl_nil)) (sl_cons (vE 2) sl_nil)))))))))))))))) (ss_one (ss_ret DE.ok (se_tup (sl_cons (s_call DE.ok (ok__law_pick kx G c) (hr.mono (by decide)) pasX rfl (He.glo_ok kx G (x := "_law_pick") (c.a 60 rfl)) (sl_cons (vE 0) (sl_cons (vE 6) sl_nil))) (sl_cons (vE 2) sl_nil)))))) ss_nil) (ss_cons (ss_if (st_cmp (op2_eq hr.units) (vB 3) (SE.b se_int) rfl) (ss_cons (ss_set (i := 6) sc__law_wrong.nd rfl (by first | exact Or.inl rfl | exact Or.inr rfl) (SO.e (so_lst (sl_cons se_non (sl_cons se_bl (sl_cons se_int (sl_cons (s_un DE.ok op1_neg (SE.b se_int)) (sl_cons se_str (sl_cons se_str (sl_cons (SO.e (so_lst sl_nil)) (sl_cons (SO.e so_dK) (sl_cons (se_tup (sl_cons (se_tup sl_nil) sl_nil)) (sl_cons (s_bin DE.ok op2_mulT (SE.b (se_tup (sl_cons se_non sl_nil))) (SE.b se_int)) (sl_cons (SO.e (so_make (okd_Bounds___init__ kx G c) (hr.mono (by decide)) pasX rfl (He.glo_ok kx G (x := "Bounds") (c.a 28 rfl)) (sl_cons se_int sl_nil))) (sl_cons (SO.e (so_make (ok_Ledger___init__ kx G c) (hr.mono (by decide)) pasX rfl (He.glo_ok kx G (x := "Ledger") (c.a 65 rfl)) (sl_cons se_int sl_nil))) (sl_cons (vE 1) sl_nil)))))))))))))))) (ss_one (ss_ret DE.ok (se_tup (sl_cons (vE 1) (sl_cons (s_call DE.ok (ok__law_pick kx G c) (hr.mono (by decide)) pasX rfl (He.glo_ok kx G (x := "_law_pick") (c.a 60 rfl)) (sl_cons (vE 0) (sl_cons (vE 6) sl_nil))) sl_nil)))))) ss_nil) (ss_cons (ss_set (i := 6) sc__law_wrong.nd rfl (by first | exact Or.inl rfl | exact Or.inr rfl) (SO.e (so_lst (sl_cons (SO.e (s_callTy DO.ok call_lstS rfl (He.free_ok kx G (x := "list") (c.a 67 rfl)) (by decide +kernel) (slb_cons (vB 2) slb_nil))) (sl_cons (se_tup (sl_cons (vE 2) sl_nil)) (sl_cons (s_bin DE.ok op2_add (vB 2) (SE.b (se_tup (sl_cons se_int sl_nil)))) (sl_cons (s_bin DE.ok op2_add (vB 2) (vB 2)) (sl_cons (SO.e (so_lst (sl_cons (vE 2) sl_nil))) (sl_cons (s_bin DE.ok op2_add (SE.b (se_sl (vB 2) sp_none (sp_some (s_un DE.ok op1_neg (SE.b se_int))))) (SE.b (se_tup (sl_cons se_non sl_nil)))) sl_nil))))))))) (ss_one (ss_ret DE.ok (se_tup (sl_cons (vE 1) (sl_cons (s_call DE.ok (ok__law_pick kx G c) (hr.mono (by decide)) pasX rfl (He.glo_ok kx G (x := "_law_pick") (c.a 60 rfl)) (sl_cons (vE 0) (sl_cons (vE 6) sl_nil))) sl_nil)))))))))))))))
theorem ok__law_right (kx : K.In h) (G : h.Ns mainGlobals mg) (c : SaysMT fa fm fn ts w K) : FnK P w K mg base (DE K) 11 1 ((.g "_law_right" : Loc3).at_ K) [] c__law_right := by
  obtain ⟨fd, F⟩ := c.d 48 (d := d__law_right) rfl
  exact fnk_of (fin := endE) F sc__law_right rfl (F.bindsN fun _ _ _ _ _ _ us hl => match us, hl with | [_], _ => rfl) .nil (fun _ _ => .nil) finE fun cdv A outer s H E hr =>
    (ss_cons (ss_set (i := 1) sc__law_right.nd rfl (by first | exact Or.inl rfl | exact Or.inr rfl) (s_call0 DE.ok (ok__law_menu kx G c) (hr.mono (by decide)) pasX rfl (He.glo_ok kx G (x := "_law_menu") (c.a 0 rfl)))) (ss_cons (ss_for ownX rfl (si_rng1 se_int rfl (He.free_ok kx G (x := "range") (c.a 33 rfl))) (tg_n (j := 2)) (pgN 2 sc__law_right.nd) (ss_cons (ss_setT (tgs_cons (j := 3) (tgs_cons (j := 4) tgs_nil)) rfl (pg_tup rfl (pgs_cons (pgN 3 sc__law_right.nd) (pgs_cons (pgN 4 sc__law_right.nd) pgs_nil))) (s_call DE.ok (ok__law_pick kx G c) (hr.mono (by decide)) pasX rfl (He.glo_ok kx G (x := "_law_pick") (c.a 60 rfl)) (sl_cons (vE 0) (sl_cons (vE 1) sl_nil)))) (ss_cons (ss_setT (tgs_cons (j := 5) (tgs_cons (j := 6) tgs_nil)) rfl (pg_tup rfl (pgs_cons (pgN 5 sc__law_right.nd) (pgs_cons (pgN 6 sc__law_right.nd) pgs_nil))) (s_call DE.ok (ok__law_wrong kx G c) (hr.mono (by decide)) pasX rfl (He.glo_ok kx G (x := "_law_wrong") (c.a 68 rfl)) (sl_cons (vE 0) (sl_cons (vE 3) (sl_cons (vE 4) sl_nil))))) (ss_cons (ss_if (st_w (sw_or (st_cmp op2_isntB (SE.b (s_call DE.ok (ok_accepts kx G c) (hr.mono (by decide)) pasX rfl (He.glo_ok kx G (x := "accepts") (c.a 57 rfl)) (sl_cons (vE 5) (sl_cons (vE 6) sl_nil)))) (SE.b se_bl) rfl) (sw_or1 (st_cmp op2_isntB (SE.b (s_callQ0 DE.ok (okq_accepts_0 kx G c) (hr.mono (by decide)) pasX rfl (He.glo_ok kx G (x := "accepts") (c.a 57 rfl)) (sk_cons (vE 6) (sk_cons (vE 5) sk_nil)))) (SE.b se_bl) rfl)))) (ss_one (ss_ret DE.ok se_bl)) ss_nil) (ss_one (ss_if (st_cmp op2_isntB (SE.b (s_call DE.ok (ok_accepts kx G c) (hr.mono (by decide)) pasX rfl (He.glo_ok kx G (x := "accepts") (c.a 57 rfl)) (sl_cons (vE 3) (sl_cons (vE 4) sl_nil)))) (SE.b se_bl) rfl) (ss_one (ss_ret DE.ok se_bl)) ss_nil)))))) (ss_one (ss_ret DE.ok se_bl))))
theorem ok__law_well (kx : K.In h) (G : h.Ns mainGlobals mg) (c : SaysMT fa fm fn ts w K) : FnK P w K mg base (DE K) 1 2 ((.g "_law_well" : Loc3).at_ K) [] c__law_well := by
  obtain ⟨fd, F⟩ := c.d 49 (d := d__law_well) rfl
  exact fnk_of (fin := endE) F sc__law_well rfl (F.bindsN fun _ _ _ _ _ _ us hl => match us, hl with | [_, _], _ => rfl) .nil (fun _ _ => .nil) finE fun cdv A outer s H E hr =>
    (ss_cons (ss_set (i := 2) sc__law_well.nd rfl (by first | exact Or.inl rfl | exact Or.inr rfl) (s_bin DE.ok op2_add (SE.b (s_bin DE.ok op2_mul (SE.b (s_bin DE.ok op2_mul (SE.b se_int) (SE.b (s_bin DE.ok op2_add (vB 1) (SE.b se_int))))) (SE.b (s_bin DE.ok op2_add (vB 1) (SE.b se_int))))) (SE.b (s_bin DE.ok op2_mul (SE.b se_int) (SE.b (s_callB DE.ok call_lenS rfl (He.free_ok kx G (x := "len") (c.a 3 rfl)) (by decide +kernel) (slb_cons (vB 0) slb_nil))))))) (ss_cons (ss_for ownX rfl (si_seq (se_sl (vB 0) sp_none (sp_some se_int))) (tg_n (j := 3)) (pgN 3 sc__law_well.nd) (ss_one (ss_set (i := 2) sc__law_well.nd rfl (by first | exact Or.inl rfl | exact Or.inr rfl) (s_bin DE.ok op2_mod (SE.b (s_callTy DE.ok call_intS rfl (He.free_ok kx G (x := "int") (c.a 11 rfl)) (by decide +kernel) (slb_cons (SE.b (s_bin DE.ok op2_add (SE.b (s_bin DE.ok op2_mul (vB 2) (SE.b se_int))) (vB 3))) slb_nil))) (SE.b se_int))))) (ss_cons (ss_set (i := 4) sc__law_well.nd rfl (by first | exact Or.inl rfl | exact Or.inr rfl) (s_if DE.ok (st_cmp (op2_lt hr.units0) (vB 1) (SE.b (s_callB DE.ok call_lenS rfl (He.free_ok kx G (x := "len") (c.a 3 rfl)) (by decide +kernel) (slb_cons (vB 0) slb_nil))) rfl) (s_ix (u1 hr) (vB 0) (vB 1)) se_int)) (ss_cons (ss_set (i := 5) sc__law_well.nd rfl (by first | exact Or.inl rfl | exact Or.inr rfl) (s_if DE.ok (st_w (sw_or (st_cmp (op2_lt hr.units0) (vB 4) (SE.b se_int) rfl) (sw_or1 (st_cmp op2_ge (vB 4) (SE.b (s_bin DE.ok op2_pow (SE.b se_int) (SE.b se_int))) rfl)))) (s_callB DE.ok call_absS rfl (He.free_ok kx G (x := "abs") (c.a 69 rfl)) (by decide +kernel) (slb_cons (vB 4) slb_nil)) se_int)) (ss_one (ss_ret DE.ok (SO.cell (so_lst (sl_cons (vE 5) (sl_cons (s_bin DE.ok op2_mod (SE.b (s_callTy DE.ok call_intS rfl (He.free_ok kx G (x := "int") (c.a 11 rfl)) (by decide +kernel) (slb_cons (SE.b (s_bin DE.ok op2_add (SE.b (s_bin DE.ok op2_add (SE.b (s_bin DE.ok op2_mul (vB 2) (SE.b se_int))) (SE.b (s_bin DE.ok op2_mul (vB 4) (SE.b se_int))))) (SE.b (s_bin DE.ok op2_mul (SE.b se_int) (SE.b (s_bin DE.ok op2_add (vB 1) (SE.b se_int))))))) slb_nil))) (SE.b se_int)) (sl_cons se_int sl_nil)))))))))))
theorem ok_law {fd : FuncData} (kx : K.In h) (G : h.Ns mainGlobals mg) (c : SaysMT fa fm fn ts w K) (F : FunD K d_law.name d_law.qual d_law.params d_law.body d_law.scope (d_law.dvs K) (d_law.kws K) (d_law.loc.at_ K) fd) : MP.FnOk P w K mg base (L2.CX P w) 12 (He.ga K "law") fd ["_law_script"] (spD K (DE K) 1 c_law) :=
  fnok_of (fin := endE) F sc_law rfl finE fun cdv A outer s H E hr =>
    (ss_cons (ss_for ownX rfl (si_seq (s_call0 DE.ok (ok__law_menu kx G c) (hr.mono (by decide)) pasX rfl (He.glo_ok kx G (x := "_law_menu") (c.a 0 rfl)))) (tg_t (tgs_cons (j := 1) (tgs_cons (j := 2) tgs_nil)) rfl) (pg_tup rfl (pgs_cons (pgN 1 sc_law.nd) (pgs_cons (pgN 2 sc_law.nd) pgs_nil))) (ss_one (ss_if (st_w (sw_or (st_cmp op2_isntB (SE.b (s_call DE.ok (ok_accepts kx G c) (hr.mono (by decide)) pasX rfl (He.glo_ok kx G (x := "accepts") (c.a 57 rfl)) (sl_cons (vE 1) (sl_cons (vE 2) sl_nil)))) (SE.b se_bl) rfl) (sw_or1 (st_cmp op2_isntB (SE.b (s_callQ0 DE.ok (okq_accepts_0 kx G c) (hr.mono (by decide)) pasX rfl (He.glo_ok kx G (x := "accepts") (c.a 57 rfl)) (sk_cons (vE 2) (sk_cons (vE 1) sk_nil)))) (SE.b se_bl) rfl)))) (ss_one (ss_ret DE.ok se_bl)) ss_nil))) (ss_one (ss_ret DE.ok (s_callB DE.ok (call_allS rfl) rfl (He.free_ok kx G (x := "all") (c.a 10 rfl)) (by decide +kernel) (slb_cons (SE.b (SO.e (so_lc rfl sc_law.nd (SI.any (si_rng1 (s_callB DE.ok (call_maxS rfl) rfl (He.free_ok kx G (x := "max") (c.a 58 rfl)) (by decide +kernel) (slb_cons (SE.b se_int) (slb_cons (SE.b (s_callB DE.ok (call_minS rfl) rfl (He.free_ok kx G (x := "min") (c.a 49 rfl)) (by decide +kernel) (slb_cons (SE.b (s_callB DE.ok call_lenS rfl (He.free_ok kx G (x := "len") (c.a 3 rfl)) (by decide +kernel) (slb_cons (vB 0) slb_nil))) (slb_cons (SE.b se_int) slb_nil)))) slb_nil))) rfl (He.free_ok kx G (x := "range") (c.a 33 rfl)))) (own := [(("_law_k" : Str), 3)]) (blkOk_by (by kernel_rfl)) (tg_n (j := 3)) (by decide) (fun s0 H0 C0 cl0 fp0 => (pgN 3 sc_law.nd)) (fun s0 H0 C0 cl0 fp0 => sts_nil) (fun s0 H0 C0 cl0 fp0 => (s_call DE.ok (ok__law_right kx G c) (hr.mono (by decide)) pas_no rfl (He.glo_ok kx G (x := "_law_right") (c.a 71 rfl)) (sl_cons (s_call DE.ok (ok__law_well kx G c) (hr.mono (by decide)) pas_no rfl (He.glo_ok kx G (x := "_law_well") (c.a 70 rfl)) (sl_cons (vE 0) (sl_cons (vE 3) sl_nil))) sl_nil)))))) slb_nil)))))
end
theorem law_F {w : World} {K : PySem.W.Frag} {h : Heap} {mg : Str → Option Value} (kx : K.In h) (G : h.Ns mainGlobals mg) (c : SaysMT fa fm fn ts w K) :
    ∃ (K' : PySem.W.Frag) (fd : FuncData) (sp : Sp), K'.In h ∧ (∀ (s : Shared) (u : Value), BindsTo s fd ⟨[u], []⟩ [("_law_script", u)]) ∧
      (∀ (H : Hp) (a : Addr) (ns : List Int), ns.length ≤ 63 → Only H → SqL K' H a (ns.map V.int) → sp [.ref a] H (fun v _ => v = .bl true) fun _ _ _ => False) ∧
      ∀ base : Heap, K'.In base → base.Ns mainGlobals mg → MP.FnOk (PySem.Challenge.rw_haulprices_k65_claims_of_any_kind).prog w K' mg base (CXa (PySem.Challenge.rw_haulprices_k65_claims_of_any_kind).prog) 12 (He.ga K "law") fd ["_law_script"] sp := by
  obtain ⟨fd, F⟩ := c.d 50 (d := d_law) rfl
  refine ⟨K, fd, spD K (DE K) 1 c_law, kx, fun s u => ?_, fun H a ns hl _ hS => law_sp hS (law_ok hl), fun base hb hm => ?_⟩
  · exact FunD.bindsA (ps := ["_law_script"]) F (fun _ _ _ _ _ _ us hl => match us, hl with | [_], _ => rfl) s [u] rfl
  · exact fn_any (ok_law kx G c F)
end HP
set_option maxRecDepth 100000
set_option maxHeartbeats 0
namespace HP
open PySem PySem.W PySem.Calls PyProof.Rows MP HandSHeadRun HQ
noncomputable section
abbrev PG : Program := PySem.Challenge.pw_haulprices_k65_claims_of_any_kind
theorem bootN_ok (w : World) : bootN w = some 11 := by kernel_rfl
def o1_0 (w : World) : Obj := (.mk (.type "dict") none (.dict (.mk (.cons (.mk (HQ.hS w "__name__") (.str "__name__" 1) (.str "builtins" 160)) (.cons (.mk (HQ.hS w "__doc__") (.str "__doc__" 2) (.builtin "builtins.__doc__:str#opaque")) (.cons (.mk (HQ.hS w "__package__") (.str "__package__" 3) (.builtin "builtins.__package__:str#opaque")) (.cons (.mk (HQ.hS w "__loader__") (.str "__loader__" 4) (.builtin "builtins.__loader__:shared#opaque")) (.cons (.mk (HQ.hS w "__spec__") (.str "__spec__" 5) (.builtin "builtins.__spec__#opaque")) (.cons (.mk (HQ.hS w "__build_class__") (.str "__build_class__" 6) (.builtin "__build_class__")) (.cons (.mk (HQ.hS w "__import__") (.str "__import__" 7) (.builtin "__import__")) (.cons (.mk (HQ.hS w "abs") (.str "abs" 8) (.builtin "abs")) (.cons (.mk (HQ.hS w "all") (.str "all" 9) (.builtin "all")) (.cons (.mk (HQ.hS w "any") (.str "any" 10) (.builtin "any")) (.cons (.mk (HQ.hS w "ascii") (.str "ascii" 11) (.builtin "ascii")) (.cons (.mk (HQ.hS w "bin") (.str "bin" 12) (.builtin "bin")) (.cons (.mk (HQ.hS w "breakpoint") (.str "breakpoint" 13) (.builtin "breakpoint")) (.cons (.mk (HQ.hS w "callable") (.str "callable" 14) (.builtin "callable")) (.cons (.mk (HQ.hS w "chr") (.str "chr" 15) (.builtin "chr")) (.cons (.mk (HQ.hS w "compile") (.str "compile" 16) (.builtin "compile")) (.cons (.mk (HQ.hS w "delattr") (.str "delattr" 17) (.builtin "delattr")) (.cons (.mk (HQ.hS w "dir") (.str "dir" 18) (.builtin "dir")) (.cons (.mk (HQ.hS w "divmod") (.str "divmod" 19) (.builtin "divmod")) (.cons (.mk (HQ.hS w "eval") (.str "eval" 20) (.builtin "eval")) (.cons (.mk (HQ.hS w "exec") (.str "exec" 21) (.builtin "exec")) (.cons (.mk (HQ.hS w "format") (.str "format" 22) (.builtin "format")) (.cons (.mk (HQ.hS w "getattr") (.str "getattr" 23) (.builtin "getattr")) (.cons (.mk (HQ.hS w "globals") (.str "globals" 24) (.builtin "globals")) (.cons (.mk (HQ.hS w "hasattr") (.str "hasattr" 25) (.builtin "hasattr")) (.cons (.mk (HQ.hS w "hash") (.str "hash" 26) (.builtin "hash")) (.cons (.mk (HQ.hS w "hex") (.str "hex" 27) (.builtin "hex")) (.cons (.mk (HQ.hS w "id") (.str "id" 28) (.builtin "id")) (.cons (.mk (HQ.hS w "input") (.str "input" 29) (.builtin "input")) (.cons (.mk (HQ.hS w "isinstance") (.str "isinstance" 30) (.builtin "isinstance")) (.cons (.mk (HQ.hS w "issubclass") (.str "issubclass" 31) (.builtin "issubclass")) (.cons (.mk (HQ.hS w "iter") (.str "iter" 32) (.builtin "iter")) (.cons (.mk (HQ.hS w "aiter") (.str "aiter" 33) (.builtin "aiter")) (.cons (.mk (HQ.hS w "len") (.str "len" 34) (.builtin "len")) (.cons (.mk (HQ.hS w "locals") (.str "locals" 35) (.builtin "locals")) (.cons (.mk (HQ.hS w "max") (.str "max" 36) (.builtin "max")) (.cons (.mk (HQ.hS w "min") (.str "min" 37) (.builtin "min")) (.cons (.mk (HQ.hS w "next") (.str "next" 38) (.builtin "next")) (.cons (.mk (HQ.hS w "anext") (.str "anext" 39) (.builtin "anext")) (.cons (.mk (HQ.hS w "oct") (.str "oct" 40) (.builtin "oct")) (.cons (.mk (HQ.hS w "ord") (.str "ord" 41) (.builtin "ord")) (.cons (.mk (HQ.hS w "pow") (.str "pow" 42) (.builtin "pow")) (.cons (.mk (HQ.hS w "print") (.str "print" 43) (.builtin "print")) (.cons (.mk (HQ.hS w "repr") (.str "repr" 44) (.builtin "repr")) (.cons (.mk (HQ.hS w "round") (.str "round" 45) (.builtin "round")) (.cons (.mk (HQ.hS w "setattr") (.str "setattr" 46) (.builtin "setattr")) (.cons (.mk (HQ.hS w "sorted") (.str "sorted" 47) (.builtin "sorted")) (.cons (.mk (HQ.hS w "sum") (.str "sum" 48) (.builtin "sum")) (.cons (.mk (HQ.hS w "vars") (.str "vars" 49) (.builtin "vars")) (.cons (.mk (HQ.hS w "None") (.str "None" 50) .none) (.cons (.mk (HQ.hS w "Ellipsis") (.str "Ellipsis" 51) .ellipsis) (.cons (.mk (HQ.hS w "NotImplemented") (.str "NotImplemented" 52) .notImplemented) (.cons (.mk (HQ.hS w "False") (.str "False" 53) (.bool false)) (.cons (.mk (HQ.hS w "True") (.str "True" 54) (.bool true)) (.cons (.mk (HQ.hS w "bool") (.str "bool" 55) (.type "bool")) (.cons (.mk (HQ.hS w "memoryview") (.str "memoryview" 56) (.type "memoryview")) (.cons (.mk (HQ.hS w "bytearray") (.str "bytearray" 57) (.type "bytearray")) (.cons (.mk (HQ.hS w "bytes") (.str "bytes" 58) (.type "bytes")) (.cons (.mk (HQ.hS w "classmethod") (.str "classmethod" 59) (.type "classmethod")) (.cons (.mk (HQ.hS w "complex") (.str "complex" 60) (.type "complex")) (.cons (.mk (HQ.hS w "dict") (.str "dict" 61) (.type "dict")) (.cons (.mk (HQ.hS w "enumerate") (.str "enumerate" 62) (.type "enumerate")) (.cons (.mk (HQ.hS w "filter") (.str "filter" 63) (.type "filter")) (.cons (.mk (HQ.hS w "float") (.str "float" 64) (.type "float")) (.cons (.mk (HQ.hS w "frozenset") (.str "frozenset" 65) (.type "frozenset")) (.cons (.mk (HQ.hS w "property") (.str "property" 66) (.type "property")) (.cons (.mk (HQ.hS w "int") (.str "int" 67) (.type "int")) (.cons (.mk (HQ.hS w "list") (.str "list" 68) (.type "list")) (.cons (.mk (HQ.hS w "map") (.str "map" 69) (.type "map")) (.cons (.mk (HQ.hS w "object") (.str "object" 70) (.type "object")) (.cons (.mk (HQ.hS w "range") (.str "range" 71) (.type "range")) (.cons (.mk (HQ.hS w "reversed") (.str "reversed" 72) (.type "reversed")) (.cons (.mk (HQ.hS w "set") (.str "set" 73) (.type "set")) (.cons (.mk (HQ.hS w "slice") (.str "slice" 74) (.type "slice")) (.cons (.mk (HQ.hS w "staticmethod") (.str "staticmethod" 75) (.type "staticmethod")) (.cons (.mk (HQ.hS w "str") (.str "str" 76) (.type "str")) (.cons (.mk (HQ.hS w "super") (.str "super" 77) (.type "super")) (.cons (.mk (HQ.hS w "tuple") (.str "tuple" 78) (.type "tuple")) (.cons (.mk (HQ.hS w "type") (.str "type" 79) (.type "type")) (.cons (.mk (HQ.hS w "zip") (.str "zip" 80) (.type "zip")) (.cons (.mk (HQ.hS w "__debug__") (.str "__debug__" 81) (.bool true)) (.cons (.mk (HQ.hS w "BaseException") (.str "BaseException" 82) (.type "BaseException")) (.cons (.mk (HQ.hS w "BaseExceptionGroup") (.str "BaseExceptionGroup" 83) (.type "BaseExceptionGroup")) (.cons (.mk (HQ.hS w "Exception") (.str "Exception" 84) (.type "Exception")) (.cons (.mk (HQ.hS w "GeneratorExit") (.str "GeneratorExit" 85) (.type "GeneratorExit")) (.cons (.mk (HQ.hS w "KeyboardInterrupt") (.str "KeyboardInterrupt" 86) (.type "KeyboardInterrupt")) (.cons (.mk (HQ.hS w "SystemExit") (.str "SystemExit" 87) (.type "SystemExit")) (.cons (.mk (HQ.hS w "ArithmeticError") (.str "ArithmeticError" 88) (.type "ArithmeticError")) (.cons (.mk (HQ.hS w "AssertionError") (.str "AssertionError" 89) (.type "AssertionError")) (.cons (.mk (HQ.hS w "AttributeError") (.str "AttributeError" 90) (.type "AttributeError")) (.cons (.mk (HQ.hS w "BufferError") (.str "BufferError" 91) (.type "BufferError")) (.cons (.mk (HQ.hS w "EOFError") (.str "EOFError" 92) (.type "EOFError")) (.cons (.mk (HQ.hS w "ImportError") (.str "ImportError" 93) (.type "ImportError")) (.cons (.mk (HQ.hS w "LookupError") (.str "LookupError" 94) (.type "LookupError")) (.cons (.mk (HQ.hS w "MemoryError") (.str "MemoryError" 95) (.type "MemoryError")) (.cons (.mk (HQ.hS w "NameError") (.str "NameError" 96) (.type "NameError")) (.cons (.mk (HQ.hS w "OSError") (.str "OSError" 97) (.type "OSError")) (.cons (.mk (HQ.hS w "ReferenceError") (.str "ReferenceError" 98) (.type "ReferenceError")) (.cons (.mk (HQ.hS w "RuntimeError") (.str "RuntimeError" 99) (.type "RuntimeError")) (.cons (.mk (HQ.hS w "StopAsyncIteration") (.str "StopAsyncIteration" 100) (.type "StopAsyncIteration")) (.cons (.mk (HQ.hS w "StopIteration") (.str "StopIteration" 101) (.type "StopIteration")) (.cons (.mk (HQ.hS w "SyntaxError") (.str "SyntaxError" 102) (.type "SyntaxError")) (.cons (.mk (HQ.hS w "SystemError") (.str "SystemError" 103) (.type "SystemError")) (.cons (.mk (HQ.hS w "TypeError") (.str "TypeError" 104) (.type "TypeError")) (.cons (.mk (HQ.hS w "ValueError") (.str "ValueError" 105) (.type "ValueError")) (.cons (.mk (HQ.hS w "Warning") (.str "Warning" 106) (.type "Warning")) (.cons (.mk (HQ.hS w "FloatingPointError") (.str "FloatingPointError" 107) (.type "FloatingPointError")) (.cons (.mk (HQ.hS w "OverflowError") (.str "OverflowError" 108) (.type "OverflowError")) (.cons (.mk (HQ.hS w "ZeroDivisionError") (.str "ZeroDivisionError" 109) (.type "ZeroDivisionError")) (.cons (.mk (HQ.hS w "BytesWarning") (.str "BytesWarning" 110) (.type "BytesWarning")) (.cons (.mk (HQ.hS w "DeprecationWarning") (.str "DeprecationWarning" 111) (.type "DeprecationWarning")) (.cons (.mk (HQ.hS w "EncodingWarning") (.str "EncodingWarning" 112) (.type "EncodingWarning")) (.cons (.mk (HQ.hS w "FutureWarning") (.str "FutureWarning" 113) (.type "FutureWarning")) (.cons (.mk (HQ.hS w "ImportWarning") (.str "ImportWarning" 114) (.type "ImportWarning")) (.cons (.mk (HQ.hS w "PendingDeprecationWarning") (.str "PendingDeprecationWarning" 115) (.type "PendingDeprecationWarning")) (.cons (.mk (HQ.hS w "ResourceWarning") (.str "ResourceWarning" 116) (.type "ResourceWarning")) (.cons (.mk (HQ.hS w "RuntimeWarning") (.str "RuntimeWarning" 117) (.type "RuntimeWarning")) (.cons (.mk (HQ.hS w "SyntaxWarning") (.str "SyntaxWarning" 118) (.type "SyntaxWarning")) (.cons (.mk (HQ.hS w "UnicodeWarning") (.str "UnicodeWarning" 119) (.type "UnicodeWarning")) (.cons (.mk (HQ.hS w "UserWarning") (.str "UserWarning" 120) (.type "UserWarning")) (.cons (.mk (HQ.hS w "BlockingIOError") (.str "BlockingIOError" 121) (.type "BlockingIOError")) (.cons (.mk (HQ.hS w "ChildProcessError") (.str "ChildProcessError" 122) (.type "ChildProcessError")) (.cons (.mk (HQ.hS w "ConnectionError") (.str "ConnectionError" 123) (.type "ConnectionError")) (.cons (.mk (HQ.hS w "FileExistsError") (.str "FileExistsError" 124) (.type "FileExistsError")) (.cons (.mk (HQ.hS w "FileNotFoundError") (.str "FileNotFoundError" 125) (.type "FileNotFoundError")) (.cons (.mk (HQ.hS w "InterruptedError") (.str "InterruptedError" 126) (.type "InterruptedError")) (.cons (.mk (HQ.hS w "IsADirectoryError") (.str "IsADirectoryError" 127) (.type "IsADirectoryError")) (.cons (.mk (HQ.hS w "NotADirectoryError") (.str "NotADirectoryError" 128) (.type "NotADirectoryError")) (.cons (.mk (HQ.hS w "PermissionError") (.str "PermissionError" 129) (.type "PermissionError")) (.cons (.mk (HQ.hS w "ProcessLookupError") (.str "ProcessLookupError" 130) (.type "ProcessLookupError")) (.cons (.mk (HQ.hS w "TimeoutError") (.str "TimeoutError" 131) (.type "TimeoutError")) (.cons (.mk (HQ.hS w "IndentationError") (.str "IndentationError" 132) (.type "IndentationError")) (.cons (.mk (HQ.hS w "_IncompleteInputError") (.str "_IncompleteInputError" 133) (.type "_IncompleteInputError")) (.cons (.mk (HQ.hS w "IndexError") (.str "IndexError" 134) (.type "IndexError")) (.cons (.mk (HQ.hS w "KeyError") (.str "KeyError" 135) (.type "KeyError")) (.cons (.mk (HQ.hS w "ModuleNotFoundError") (.str "ModuleNotFoundError" 136) (.type "ModuleNotFoundError")) (.cons (.mk (HQ.hS w "NotImplementedError") (.str "NotImplementedError" 137) (.type "NotImplementedError")) (.cons (.mk (HQ.hS w "PythonFinalizationError") (.str "PythonFinalizationError" 138) (.type "PythonFinalizationError")) (.cons (.mk (HQ.hS w "RecursionError") (.str "RecursionError" 139) (.type "RecursionError")) (.cons (.mk (HQ.hS w "UnboundLocalError") (.str "UnboundLocalError" 140) (.type "UnboundLocalError")) (.cons (.mk (HQ.hS w "UnicodeError") (.str "UnicodeError" 141) (.type "UnicodeError")) (.cons (.mk (HQ.hS w "BrokenPipeError") (.str "BrokenPipeError" 142) (.type "BrokenPipeError")) (.cons (.mk (HQ.hS w "ConnectionAbortedError") (.str "ConnectionAbortedError" 143) (.type "ConnectionAbortedError")) (.cons (.mk (HQ.hS w "ConnectionRefusedError") (.str "ConnectionRefusedError" 144) (.type "ConnectionRefusedError")) (.cons (.mk (HQ.hS w "ConnectionResetError") (.str "ConnectionResetError" 145) (.type "ConnectionResetError")) (.cons (.mk (HQ.hS w "TabError") (.str "TabError" 146) (.type "TabError")) (.cons (.mk (HQ.hS w "UnicodeDecodeError") (.str "UnicodeDecodeError" 147) (.type "UnicodeDecodeError")) (.cons (.mk (HQ.hS w "UnicodeEncodeError") (.str "UnicodeEncodeError" 148) (.type "UnicodeEncodeError")) (.cons (.mk (HQ.hS w "UnicodeTranslateError") (.str "UnicodeTranslateError" 149) (.type "UnicodeTranslateError")) (.cons (.mk (HQ.hS w "ExceptionGroup") (.str "ExceptionGroup" 150) (.type "ExceptionGroup")) (.cons (.mk (HQ.hS w "EnvironmentError") (.str "EnvironmentError" 151) (.type "OSError")) (.cons (.mk (HQ.hS w "IOError") (.str "IOError" 152) (.type "OSError")) (.cons (.mk (HQ.hS w "open") (.str "open" 153) (.builtin "open")) (.cons (.mk (HQ.hS w "quit") (.str "quit" 154) (.builtin "builtins.quit#opaque")) (.cons (.mk (HQ.hS w "exit") (.str "exit" 155) (.builtin "builtins.exit#opaque")) (.cons (.mk (HQ.hS w "copyright") (.str "copyright" 156) (.builtin "builtins.copyright#opaque")) (.cons (.mk (HQ.hS w "credits") (.str "credits" 157) (.builtin "builtins.credits#opaque")) (.cons (.mk (HQ.hS w "license") (.str "license" 158) (.builtin "builtins.license#opaque")) (.cons (.mk (HQ.hS w "help") (.str "help" 159) (.builtin "builtins.help#opaque")) [])))))))))))))))))))))))))))))))))))))))))))))))))))))))))))))))))))))))))))))))))))))))))))))))))))))))))))))))))))))))))))))))))))))))))))))))))))))))))))))))) 159) (.mk []))
def o1_1 (w : World) : Obj := (.mk (.type "dict") none (.dict (.mk [(.mk (HQ.hS w "builtins") (.str "builtins" 162) (.ref 4)), (.mk (HQ.hS w "__main__") (.str "__main__" 163) (.ref 5))]) 2) (.mk []))
def o1_2 (w : World) : Obj := (.mk .none none (.dict (.mk []) 0) (.mk []))
def o1_3 (w : World) : Obj := (.mk (.type "dict") none (.dict (.mk (.cons (.mk (HQ.hS w "__name__") (.str "__name__" 165) (.str "haulprices.bounds" 460)) (.cons (.mk (HQ.hS w "__doc__") (.str "__doc__" 166) .none) (.cons (.mk (HQ.hS w "__package__") (.str "__package__" 167) .none) (.cons (.mk (HQ.hS w "__loader__") (.str "__loader__" 168) (.builtin "__main__.__loader__#opaque")) (.cons (.mk (HQ.hS w "__spec__") (.str "__spec__" 169) .none) (.cons (.mk (HQ.hS w "__annotations__") (.str "__annotations__" 170) (.ref 6)) (.cons (.mk (HQ.hS w "__builtins__") (.str "__builtins__" 171) (.ref 4)) (.cons (.mk (HQ.hS w "__file__") (.str "__file__" 173) (.str "/claim/cut.py" 172)) (.cons (.mk (HQ.hS w "__cached__") (.str "__cached__" 174) .none) (.cons (.mk (HQ.hS w "_wall") (.str "_wall" 193) (.ref 21)) (.cons (.mk (HQ.hS w "WrongValue") (.str "WrongValue" 213) (.ref 31)) (.cons (.mk (HQ.hS w "InvalidStops") (.str "InvalidStops" 238) (.ref 51)) (.cons (.mk (HQ.hS w "InvalidHaul") (.str "InvalidHaul" 263) (.ref 70)) (.cons (.mk (HQ.hS w "InvalidRules") (.str "InvalidRules" 288) (.ref 89)) (.cons (.mk (HQ.hS w "InvalidText") (.str "InvalidText" 313) (.ref 108)) (.cons (.mk (HQ.hS w "InvalidRanges") (.str "InvalidRanges" 338) (.ref 127)) (.cons (.mk (HQ.hS w "WrongRow") (.str "WrongRow" 363) (.ref 146)) (.cons (.mk (HQ.hS w "MOST_STOPS") (.str "MOST_STOPS" 365) (.int (Int.ofNat 10) 364)) (.cons (.mk (HQ.hS w "MOST_PRICE") (.str "MOST_PRICE" 369) (.int (Int.ofNat 1000000000000) 368)) (.cons (.mk (HQ.hS w "RULES") (.str "RULES" 375) (.ref 149)) (.cons (.mk (HQ.hS w "is_integer") (.str "is_integer" 382) (.ref 156)) (.cons (.mk (HQ.hS w "is_within") (.str "is_within" 391) (.ref 163)) (.cons (.mk (HQ.hS w "is_price") (.str "is_price" 398) (.ref 170)) (.cons (.mk (HQ.hS w "is_haul") (.str "is_haul" 404) (.ref 175)) (.cons (.mk (HQ.hS w "is_rules") (.str "is_rules" 411) (.ref 182)) (.cons (.mk (HQ.hS w "lies_within") (.str "lies_within" 419) (.ref 189)) (.cons (.mk (HQ.hS w "hauls_of") (.str "hauls_of" 425) (.ref 194)) (.cons (.mk (HQ.hS w "triples_of") (.str "triples_of" 431) (.ref 199)) (.cons (.mk (HQ.hS w "costs_in") (.str "costs_in" 437) (.ref 204)) (.cons (.mk (HQ.hS w "check_stops") (.str "check_stops" 444) (.ref 211)) (.cons (.mk (HQ.hS w "check_haul") (.str "check_haul" 452) (.ref 218)) (.cons (.mk (HQ.hS w "check_rules") (.str "check_rules" 459) (.ref 225)) (.cons (.mk (HQ.hS w "DIGITS") (.str "DIGITS" 463) (.str "0123456789" 462)) (.cons (.mk (HQ.hS w "is_range") (.str "is_range" 471) (.ref 232)) (.cons (.mk (HQ.hS w "number_in") (.str "number_in" 477) (.ref 237)) (.cons (.mk (HQ.hS w "stops_in") (.str "stops_in" 486) (.ref 244)) (.cons (.mk (HQ.hS w "range_in") (.str "range_in" 492) (.ref 249)) [])))))))))))))))))))))))))))))))))))))) 37) (.mk []))
def o1_4 (w : World) : Obj := (.mk (.type "module") (some 0) .plain (.mk []))
def o1_5 (w : World) : Obj := (.mk (.type "module") (some 3) .plain (.mk []))
def o1_6 (w : World) : Obj := (.mk (.type "dict") none (.dict (.mk []) 0) (.mk []))
def o1_7 (w : World) : Obj := (.mk (.type "tuple") none (.seq (.mk []) 0) (.mk []))
def o1_8 (w : World) : Obj := (.mk .none none (.fields (.mk [])) (.mk []))
def o1_9 (w : World) : Obj := (.mk (.type "code") none (.fields (.mk [(.str "<module>" 176), (.str "<module>" 177), (.str "/claim/cut.py" 178), (.int (Int.ofNat 1) 0), (.int (Int.ofNat 0) 0), (.int (Int.ofNat 0) 0), (.int (Int.ofNat 0) 0), (.int (Int.ofNat 0) 0), (.ref 7), (.bool false), (.int (Int.ofNat 175) 0), (.ref 8), .none, .none, .none, .none, (.int (Int.ofNat 179) 0), (.int (Int.ofNat 1) 0), (.str "/claim/cut.py" 180)])) (.mk []))
def o1_10 (w : World) : Obj := (.mk (.type "frame") none .plain (.mk [(some (.ref 9)), (some (.ref 3)), (some (.ref 3)), none, (some (.str "__main__" 164)), none, (some (.ref 0))]))
def o1_11 (w : World) : Obj := (.mk (.type "tuple") none (.seq (.mk []) 0) (.mk []))
def o1_12 (w : World) : Obj := (.mk .none none (.fields (.mk (.cons (.int (Int.ofNat 1) 0) (.cons (.int (Int.ofNat 0) 0) (.cons (.ref 20) (.cons (.int (Int.ofNat 5) 0) (.cons (.int (Int.ofNat 0) 0) (.cons (.ref 27) (.cons (.int (Int.ofNat 7) 0) (.cons (.int (Int.ofNat 0) 0) (.cons (.ref 40) (.cons (.int (Int.ofNat 11) 0) (.cons (.int (Int.ofNat 0) 0) (.cons (.ref 59) (.cons (.int (Int.ofNat 15) 0) (.cons (.int (Int.ofNat 0) 0) (.cons (.ref 78) (.cons (.int (Int.ofNat 19) 0) (.cons (.int (Int.ofNat 0) 0) (.cons (.ref 97) (.cons (.int (Int.ofNat 23) 0) (.cons (.int (Int.ofNat 0) 0) (.cons (.ref 116) (.cons (.int (Int.ofNat 27) 0) (.cons (.int (Int.ofNat 0) 0) (.cons (.ref 135) (.cons (.int (Int.ofNat 35) 0) (.cons (.int (Int.ofNat 0) 0) (.cons (.ref 155) (.cons (.int (Int.ofNat 37) 0) (.cons (.int (Int.ofNat 0) 0) (.cons (.ref 162) (.cons (.int (Int.ofNat 39) 0) (.cons (.int (Int.ofNat 0) 0) (.cons (.ref 169) (.cons (.int (Int.ofNat 41) 0) (.cons (.int (Int.ofNat 0) 0) (.cons (.ref 174) (.cons (.int (Int.ofNat 45) 0) (.cons (.int (Int.ofNat 0) 0) (.cons (.ref 181) (.cons (.int (Int.ofNat 47) 0) (.cons (.int (Int.ofNat 0) 0) (.cons (.ref 188) (.cons (.int (Int.ofNat 49) 0) (.cons (.int (Int.ofNat 0) 0) (.cons (.ref 193) (.cons (.int (Int.ofNat 54) 0) (.cons (.int (Int.ofNat 0) 0) (.cons (.ref 198) (.cons (.int (Int.ofNat 59) 0) (.cons (.int (Int.ofNat 0) 0) (.cons (.ref 203) (.cons (.int (Int.ofNat 61) 0) (.cons (.int (Int.ofNat 0) 0) (.cons (.ref 210) (.cons (.int (Int.ofNat 64) 0) (.cons (.int (Int.ofNat 0) 0) (.cons (.ref 217) (.cons (.int (Int.ofNat 67) 0) (.cons (.int (Int.ofNat 0) 0) (.cons (.ref 224) (.cons (.int (Int.ofNat 72) 0) (.cons (.int (Int.ofNat 0) 0) (.cons (.ref 231) (.cons (.int (Int.ofNat 76) 0) (.cons (.int (Int.ofNat 0) 0) (.cons (.ref 236) (.cons (.int (Int.ofNat 80) 0) (.cons (.int (Int.ofNat 0) 0) (.cons (.ref 243) (.cons (.int (Int.ofNat 84) 0) (.cons (.int (Int.ofNat 0) 0) (.cons (.ref 248) [])))))))))))))))))))))))))))))))))))))))))))))))))))))))))))))))))))))))))) (.mk []))
def o1_13 (w : World) : Obj := (.mk (.type "code") none (.fields (.mk [(.str "<module>" 182), (.str "<module>" 183), (.str "/claim/cut.py" 184), (.int (Int.ofNat 1) 0), (.int (Int.ofNat 0) 0), (.int (Int.ofNat 0) 0), (.int (Int.ofNat 0) 0), (.int (Int.ofNat 0) 0), (.ref 11), (.bool false), (.int (Int.ofNat 181) 0), (.ref 12), .none, .none, .none, .none, (.int (Int.ofNat 185) 0), (.int (Int.ofNat 1) 0), (.str "/claim/cut.py" 186)])) (.mk []))
def o1_14 (w : World) : Obj := (.mk (.type "frame") none .plain (.mk [(some (.ref 13)), (some (.ref 3)), (some (.ref 3)), none, (some (.str "__main__" 164)), none, (some (.ref 0))]))
def o1_15 (w : World) : Obj := (.mk (.type "tuple") none (.seq (.mk []) 0) (.mk []))
def o1_16 (w : World) : Obj := (.mk .none none (.fields (.mk [])) (.mk []))
def o1_17 (w : World) : Obj := (.mk (.type "tuple") none (.seq (.mk [(.str "k" 190)]) 0) (.mk []))
def o1_18 (w : World) : Obj := (.mk (.type "tuple") none (.seq (.mk []) 0) (.mk []))
def o1_19 (w : World) : Obj := (.mk .none none (.func (FuncData.mk "_wall" "_wall" (L2.defArgs (HP.top 0)) (FuncBody.stmts (L2.defBody (HP.top 0))) (L2.defScope (HP.top 0)) 0 [] .none .none .none .none none .none .none 0)) (.mk []))
def o1_20 (w : World) : Obj := (.mk (.type "code") none (.fields (.mk [(.str "_wall" 187), (.str "_wall" 188), (.str "/claim/cut.py" 189), (.int (Int.ofNat 1) 0), (.int (Int.ofNat 1) 0), (.int (Int.ofNat 0) 0), (.int (Int.ofNat 0) 0), (.int (Int.ofNat 3) 0), (.ref 15), (.bool true), (.int (Int.ofNat 181) 0), (.ref 16), .none, (.ref 17), (.ref 18), (.ref 19), (.int (Int.ofNat 191) 0), (.int (Int.ofNat 1) 0), (.str "/claim/cut.py" 192)])) (.mk []))
def o1_21 (w : World) : Obj := (.mk (.type "function") none (.func (FuncData.mk "_wall" "_wall" (L2.defArgs (HP.top 0)) (FuncBody.stmts (L2.defBody (HP.top 0))) (L2.defScope (HP.top 0)) 3 [] .none .none .none (.str "__main__" 164) none (.ref 20) .none 0)) (.mk []))
def o1_22 (w : World) : Obj := (.mk (.type "tuple") none (.seq (.mk [(.type "ValueError")]) 0) (.mk []))
def o1_23 (w : World) : Obj := (.mk (.type "builtin_function_or_method") none (.fields (.mk [(.builtin "type.__prepare__"), (.type "type")])) (.mk []))
def o1_24 (w : World) : Obj := (.mk (.type "dict") none (.dict (.mk [(.mk (HQ.hS w "__module__") (.str "__module__" 203) (.str "haulprices.errors" 194)), (.mk (HQ.hS w "__qualname__") (.str "__qualname__" 205) (.str "WrongValue" 204)), (.mk (HQ.hS w "__firstlineno__") (.str "__firstlineno__" 207) (.int (Int.ofNat 5) 206)), (.mk (HQ.hS w "__static_attributes__") (.str "__static_attributes__" 208) (.ref 29))]) 4) (.mk []))
def o1_25 (w : World) : Obj := (.mk (.type "tuple") none (.seq (.mk []) 0) (.mk []))
def o1_26 (w : World) : Obj := (.mk .none none (.fields (.mk [])) (.mk []))
def o1_27 (w : World) : Obj := (.mk (.type "code") none (.fields (.mk [(.str "WrongValue" 198), (.str "WrongValue" 199), (.str "/claim/cut.py" 200), (.int (Int.ofNat 5) 0), (.int (Int.ofNat 0) 0), (.int (Int.ofNat 0) 0), (.int (Int.ofNat 0) 0), (.int (Int.ofNat 0) 0), (.ref 25), (.bool false), (.int (Int.ofNat 181) 0), (.ref 26), .none, .none, .none, .none, (.int (Int.ofNat 201) 0), (.int (Int.ofNat 5) 0), (.str "/claim/cut.py" 202)])) (.mk []))
def o1_28 (w : World) : Obj := (.mk (.type "frame") none .plain (.mk [(some (.ref 27)), (some (.ref 3)), (some (.ref 24)), none, (some (.str "haulprices.errors" 194)), none, (some (.ref 0))]))
def o1_29 (w : World) : Obj := (.mk (.type "tuple") none (.seq (.mk []) 0) (.mk []))
def o1_30 (w : World) : Obj := (.mk (.type "dict") none (.dict (.mk [(.mk (HQ.hS w "__module__") (.str "__module__" 203) (.str "haulprices.errors" 194)), (.mk (HQ.hS w "__firstlineno__") (.str "__firstlineno__" 207) (.int (Int.ofNat 5) 206)), (.mk (HQ.hS w "__static_attributes__") (.str "__static_attributes__" 208) (.ref 29)), (.mk (HQ.hS w "__weakref__") (.str "__weakref__" 210) (.ref 32)), (.mk (HQ.hS w "__doc__") (.str "__doc__" 211) .none)]) 3) (.mk []))
def o1_31 (w : World) : Obj := (.mk (.type "type") none (.cls (PySem.ClassData.mk "WrongValue" [(.type "ValueError")] [(.ref 31), (.type "ValueError"), (.type "Exception"), (.type "BaseException"), (.type "object")] 30 "WrongValue" true [] [(.ref 51), (.ref 70), (.ref 89), (.ref 108), (.ref 127), (.ref 146)] false none false)) (.mk [(some (.ref 22)), none, (some (.str "WrongValue" 196)), (some (.str "WrongValue" 204)), (some (.builtin "ValueError.__new__")), (some (.bool true))]))
def o1_32 (w : World) : Obj := (.mk (.type "getset_descriptor") none (.fields (.mk [(.str "__weakref__" 209), (.ref 31), (.builtin "ExceptionGroup.__weakref__"), .none])) (.mk []))
def o1_33 (w : World) : Obj := (.mk (.type "super") none (.fields (.mk [(.ref 31), (.ref 31), (.ref 31)])) (.mk []))
def o1_34 (w : World) : Obj := (.mk (.type "builtin_function_or_method") none (.fields (.mk [(.builtin "object.__init_subclass__"), (.ref 31)])) (.mk []))
def o1_35 (w : World) : Obj := (.mk (.type "tuple") none (.seq (.mk [(.ref 31)]) 0) (.mk []))
def o1_36 (w : World) : Obj := (.mk (.type "builtin_function_or_method") none (.fields (.mk [(.builtin "type.__prepare__"), (.type "type")])) (.mk []))
def o1_37 (w : World) : Obj := (.mk (.type "dict") none (.dict (.mk [(.mk (HQ.hS w "__module__") (.str "__module__" 221) (.str "haulprices.errors" 194)), (.mk (HQ.hS w "__qualname__") (.str "__qualname__" 223) (.str "InvalidStops" 222)), (.mk (HQ.hS w "__firstlineno__") (.str "__firstlineno__" 225) (.int (Int.ofNat 7) 224)), (.mk (HQ.hS w "__init__") (.str "__init__" 233) (.ref 48)), (.mk (HQ.hS w "__static_attributes__") (.str "__static_attributes__" 235) (.ref 49))]) 5) (.mk []))
def o1_38 (w : World) : Obj := (.mk (.type "tuple") none (.seq (.mk []) 0) (.mk []))
def o1_39 (w : World) : Obj := (.mk .none none (.fields (.mk [(.int (Int.ofNat 9) 0), (.int (Int.ofNat 4) 0), (.ref 47)])) (.mk []))
def o1_40 (w : World) : Obj := (.mk (.type "code") none (.fields (.mk [(.str "InvalidStops" 216), (.str "InvalidStops" 217), (.str "/claim/cut.py" 218), (.int (Int.ofNat 7) 0), (.int (Int.ofNat 0) 0), (.int (Int.ofNat 0) 0), (.int (Int.ofNat 0) 0), (.int (Int.ofNat 0) 0), (.ref 38), (.bool false), (.int (Int.ofNat 181) 0), (.ref 39), .none, .none, .none, .none, (.int (Int.ofNat 219) 0), (.int (Int.ofNat 7) 0), (.str "/claim/cut.py" 220)])) (.mk []))
def o1_41 (w : World) : Obj := (.mk (.type "frame") none .plain (.mk [(some (.ref 40)), (some (.ref 3)), (some (.ref 37)), none, (some (.str "haulprices.errors" 194)), none, (some (.ref 0))]))
def o1_42 (w : World) : Obj := (.mk (.type "tuple") none (.seq (.mk []) 0) (.mk []))
def o1_43 (w : World) : Obj := (.mk .none none (.fields (.mk [])) (.mk []))
def o1_44 (w : World) : Obj := (.mk (.type "tuple") none (.seq (.mk [(.str "self" 229), (.str "given" 230)]) 0) (.mk []))
def o1_45 (w : World) : Obj := (.mk (.type "tuple") none (.seq (.mk []) 0) (.mk []))
def o1_46 (w : World) : Obj := (.mk .none none (.func (FuncData.mk "__init__" "InvalidStops.__init__" (L2.defArgs ((MP.clsB (HP.top 3)).getD 0 (.Pass ⟨0, 0, 0, 0⟩))) (FuncBody.stmts (L2.defBody ((MP.clsB (HP.top 3)).getD 0 (.Pass ⟨0, 0, 0, 0⟩)))) (L2.defScope ((MP.clsB (HP.top 3)).getD 0 (.Pass ⟨0, 0, 0, 0⟩))) 0 [] .none .none .none .none none .none .none 0)) (.mk []))
def o1_47 (w : World) : Obj := (.mk (.type "code") none (.fields (.mk [(.str "__init__" 226), (.str "InvalidStops.__init__" 227), (.str "/claim/cut.py" 228), (.int (Int.ofNat 9) 0), (.int (Int.ofNat 2) 0), (.int (Int.ofNat 0) 0), (.int (Int.ofNat 0) 0), (.int (Int.ofNat 3) 0), (.ref 42), (.bool true), (.int (Int.ofNat 181) 0), (.ref 43), .none, (.ref 44), (.ref 45), (.ref 46), (.int (Int.ofNat 231) 0), (.int (Int.ofNat 9) 0), (.str "/claim/cut.py" 232)])) (.mk []))
def o1_48 (w : World) : Obj := (.mk (.type "function") none (.func (FuncData.mk "__init__" "InvalidStops.__init__" (L2.defArgs ((MP.clsB (HP.top 3)).getD 0 (.Pass ⟨0, 0, 0, 0⟩))) (FuncBody.stmts (L2.defBody ((MP.clsB (HP.top 3)).getD 0 (.Pass ⟨0, 0, 0, 0⟩)))) (L2.defScope ((MP.clsB (HP.top 3)).getD 0 (.Pass ⟨0, 0, 0, 0⟩))) 3 [] .none .none .none (.str "haulprices.errors" 194) none (.ref 47) .none 0)) (.mk []))
def o1_49 (w : World) : Obj := (.mk (.type "tuple") none (.seq (.mk [(.str "given" 234)]) 0) (.mk []))
def o1_50 (w : World) : Obj := (.mk (.type "dict") none (.dict (.mk [(.mk (HQ.hS w "__module__") (.str "__module__" 221) (.str "haulprices.errors" 194)), (.mk (HQ.hS w "__firstlineno__") (.str "__firstlineno__" 225) (.int (Int.ofNat 7) 224)), (.mk (HQ.hS w "__init__") (.str "__init__" 233) (.ref 48)), (.mk (HQ.hS w "__static_attributes__") (.str "__static_attributes__" 235) (.ref 49)), (.mk (HQ.hS w "__doc__") (.str "__doc__" 236) .none)]) 2) (.mk []))
def o1_51 (w : World) : Obj := (.mk (.type "type") none (.cls (PySem.ClassData.mk "InvalidStops" [(.ref 31)] [(.ref 51), (.ref 31), (.type "ValueError"), (.type "Exception"), (.type "BaseException"), (.type "object")] 50 "InvalidStops" true [] [] false none false)) (.mk [(some (.ref 35)), none, (some (.str "InvalidStops" 214)), (some (.str "InvalidStops" 222)), (some (.builtin "ValueError.__new__")), (some (.bool true))]))
def o1_52 (w : World) : Obj := (.mk (.type "super") none (.fields (.mk [(.ref 51), (.ref 51), (.ref 51)])) (.mk []))
def o1_53 (w : World) : Obj := (.mk (.type "builtin_function_or_method") none (.fields (.mk [(.builtin "object.__init_subclass__"), (.ref 51)])) (.mk []))
def o1_54 (w : World) : Obj := (.mk (.type "tuple") none (.seq (.mk [(.ref 31)]) 0) (.mk []))
def o1_55 (w : World) : Obj := (.mk (.type "builtin_function_or_method") none (.fields (.mk [(.builtin "type.__prepare__"), (.type "type")])) (.mk []))
def o1_56 (w : World) : Obj := (.mk (.type "dict") none (.dict (.mk [(.mk (HQ.hS w "__module__") (.str "__module__" 246) (.str "haulprices.errors" 194)), (.mk (HQ.hS w "__qualname__") (.str "__qualname__" 248) (.str "InvalidHaul" 247)), (.mk (HQ.hS w "__firstlineno__") (.str "__firstlineno__" 250) (.int (Int.ofNat 11) 249)), (.mk (HQ.hS w "__init__") (.str "__init__" 258) (.ref 67)), (.mk (HQ.hS w "__static_attributes__") (.str "__static_attributes__" 260) (.ref 68))]) 5) (.mk []))
def o1_57 (w : World) : Obj := (.mk (.type "tuple") none (.seq (.mk []) 0) (.mk []))
def o1_58 (w : World) : Obj := (.mk .none none (.fields (.mk [(.int (Int.ofNat 13) 0), (.int (Int.ofNat 4) 0), (.ref 66)])) (.mk []))
def o1_59 (w : World) : Obj := (.mk (.type "code") none (.fields (.mk [(.str "InvalidHaul" 241), (.str "InvalidHaul" 242), (.str "/claim/cut.py" 243), (.int (Int.ofNat 11) 0), (.int (Int.ofNat 0) 0), (.int (Int.ofNat 0) 0), (.int (Int.ofNat 0) 0), (.int (Int.ofNat 0) 0), (.ref 57), (.bool false), (.int (Int.ofNat 181) 0), (.ref 58), .none, .none, .none, .none, (.int (Int.ofNat 244) 0), (.int (Int.ofNat 11) 0), (.str "/claim/cut.py" 245)])) (.mk []))
def o1_60 (w : World) : Obj := (.mk (.type "frame") none .plain (.mk [(some (.ref 59)), (some (.ref 3)), (some (.ref 56)), none, (some (.str "haulprices.errors" 194)), none, (some (.ref 0))]))
def o1_61 (w : World) : Obj := (.mk (.type "tuple") none (.seq (.mk []) 0) (.mk []))
def o1_62 (w : World) : Obj := (.mk .none none (.fields (.mk [])) (.mk []))
def o1_63 (w : World) : Obj := (.mk (.type "tuple") none (.seq (.mk [(.str "self" 254), (.str "given" 255)]) 0) (.mk []))
def o1_64 (w : World) : Obj := (.mk (.type "tuple") none (.seq (.mk []) 0) (.mk []))
def o1_65 (w : World) : Obj := (.mk .none none (.func (FuncData.mk "__init__" "InvalidHaul.__init__" (L2.defArgs ((MP.clsB (HP.top 4)).getD 0 (.Pass ⟨0, 0, 0, 0⟩))) (FuncBody.stmts (L2.defBody ((MP.clsB (HP.top 4)).getD 0 (.Pass ⟨0, 0, 0, 0⟩)))) (L2.defScope ((MP.clsB (HP.top 4)).getD 0 (.Pass ⟨0, 0, 0, 0⟩))) 0 [] .none .none .none .none none .none .none 0)) (.mk []))
def o1_66 (w : World) : Obj := (.mk (.type "code") none (.fields (.mk [(.str "__init__" 251), (.str "InvalidHaul.__init__" 252), (.str "/claim/cut.py" 253), (.int (Int.ofNat 13) 0), (.int (Int.ofNat 2) 0), (.int (Int.ofNat 0) 0), (.int (Int.ofNat 0) 0), (.int (Int.ofNat 3) 0), (.ref 61), (.bool true), (.int (Int.ofNat 181) 0), (.ref 62), .none, (.ref 63), (.ref 64), (.ref 65), (.int (Int.ofNat 256) 0), (.int (Int.ofNat 13) 0), (.str "/claim/cut.py" 257)])) (.mk []))
def o1_67 (w : World) : Obj := (.mk (.type "function") none (.func (FuncData.mk "__init__" "InvalidHaul.__init__" (L2.defArgs ((MP.clsB (HP.top 4)).getD 0 (.Pass ⟨0, 0, 0, 0⟩))) (FuncBody.stmts (L2.defBody ((MP.clsB (HP.top 4)).getD 0 (.Pass ⟨0, 0, 0, 0⟩)))) (L2.defScope ((MP.clsB (HP.top 4)).getD 0 (.Pass ⟨0, 0, 0, 0⟩))) 3 [] .none .none .none (.str "haulprices.errors" 194) none (.ref 66) .none 0)) (.mk []))
def o1_68 (w : World) : Obj := (.mk (.type "tuple") none (.seq (.mk [(.str "given" 259)]) 0) (.mk []))
def o1_69 (w : World) : Obj := (.mk (.type "dict") none (.dict (.mk [(.mk (HQ.hS w "__module__") (.str "__module__" 246) (.str "haulprices.errors" 194)), (.mk (HQ.hS w "__firstlineno__") (.str "__firstlineno__" 250) (.int (Int.ofNat 11) 249)), (.mk (HQ.hS w "__init__") (.str "__init__" 258) (.ref 67)), (.mk (HQ.hS w "__static_attributes__") (.str "__static_attributes__" 260) (.ref 68)), (.mk (HQ.hS w "__doc__") (.str "__doc__" 261) .none)]) 2) (.mk []))
def o1_70 (w : World) : Obj := (.mk (.type "type") none (.cls (PySem.ClassData.mk "InvalidHaul" [(.ref 31)] [(.ref 70), (.ref 31), (.type "ValueError"), (.type "Exception"), (.type "BaseException"), (.type "object")] 69 "InvalidHaul" true [] [] false none false)) (.mk [(some (.ref 54)), none, (some (.str "InvalidHaul" 239)), (some (.str "InvalidHaul" 247)), (some (.builtin "ValueError.__new__")), (some (.bool true))]))
def o1_71 (w : World) : Obj := (.mk (.type "super") none (.fields (.mk [(.ref 70), (.ref 70), (.ref 70)])) (.mk []))
def o1_72 (w : World) : Obj := (.mk (.type "builtin_function_or_method") none (.fields (.mk [(.builtin "object.__init_subclass__"), (.ref 70)])) (.mk []))
def o1_73 (w : World) : Obj := (.mk (.type "tuple") none (.seq (.mk [(.ref 31)]) 0) (.mk []))
def o1_74 (w : World) : Obj := (.mk (.type "builtin_function_or_method") none (.fields (.mk [(.builtin "type.__prepare__"), (.type "type")])) (.mk []))
def o1_75 (w : World) : Obj := (.mk (.type "dict") none (.dict (.mk [(.mk (HQ.hS w "__module__") (.str "__module__" 271) (.str "haulprices.errors" 194)), (.mk (HQ.hS w "__qualname__") (.str "__qualname__" 273) (.str "InvalidRules" 272)), (.mk (HQ.hS w "__firstlineno__") (.str "__firstlineno__" 275) (.int (Int.ofNat 15) 274)), (.mk (HQ.hS w "__init__") (.str "__init__" 283) (.ref 86)), (.mk (HQ.hS w "__static_attributes__") (.str "__static_attributes__" 285) (.ref 87))]) 5) (.mk []))
def o1_76 (w : World) : Obj := (.mk (.type "tuple") none (.seq (.mk []) 0) (.mk []))
def o1_77 (w : World) : Obj := (.mk .none none (.fields (.mk [(.int (Int.ofNat 17) 0), (.int (Int.ofNat 4) 0), (.ref 85)])) (.mk []))
def o1_78 (w : World) : Obj := (.mk (.type "code") none (.fields (.mk [(.str "InvalidRules" 266), (.str "InvalidRules" 267), (.str "/claim/cut.py" 268), (.int (Int.ofNat 15) 0), (.int (Int.ofNat 0) 0), (.int (Int.ofNat 0) 0), (.int (Int.ofNat 0) 0), (.int (Int.ofNat 0) 0), (.ref 76), (.bool false), (.int (Int.ofNat 181) 0), (.ref 77), .none, .none, .none, .none, (.int (Int.ofNat 269) 0), (.int (Int.ofNat 15) 0), (.str "/claim/cut.py" 270)])) (.mk []))
def o1_79 (w : World) : Obj := (.mk (.type "frame") none .plain (.mk [(some (.ref 78)), (some (.ref 3)), (some (.ref 75)), none, (some (.str "haulprices.errors" 194)), none, (some (.ref 0))]))
def o1_80 (w : World) : Obj := (.mk (.type "tuple") none (.seq (.mk []) 0) (.mk []))
def o1_81 (w : World) : Obj := (.mk .none none (.fields (.mk [])) (.mk []))
def o1_82 (w : World) : Obj := (.mk (.type "tuple") none (.seq (.mk [(.str "self" 279), (.str "given" 280)]) 0) (.mk []))
def o1_83 (w : World) : Obj := (.mk (.type "tuple") none (.seq (.mk []) 0) (.mk []))
def o1_84 (w : World) : Obj := (.mk .none none (.func (FuncData.mk "__init__" "InvalidRules.__init__" (L2.defArgs ((MP.clsB (HP.top 5)).getD 0 (.Pass ⟨0, 0, 0, 0⟩))) (FuncBody.stmts (L2.defBody ((MP.clsB (HP.top 5)).getD 0 (.Pass ⟨0, 0, 0, 0⟩)))) (L2.defScope ((MP.clsB (HP.top 5)).getD 0 (.Pass ⟨0, 0, 0, 0⟩))) 0 [] .none .none .none .none none .none .none 0)) (.mk []))
def o1_85 (w : World) : Obj := (.mk (.type "code") none (.fields (.mk [(.str "__init__" 276), (.str "InvalidRules.__init__" 277), (.str "/claim/cut.py" 278), (.int (Int.ofNat 17) 0), (.int (Int.ofNat 2) 0), (.int (Int.ofNat 0) 0), (.int (Int.ofNat 0) 0), (.int (Int.ofNat 3) 0), (.ref 80), (.bool true), (.int (Int.ofNat 181) 0), (.ref 81), .none, (.ref 82), (.ref 83), (.ref 84), (.int (Int.ofNat 281) 0), (.int (Int.ofNat 17) 0), (.str "/claim/cut.py" 282)])) (.mk []))
def o1_86 (w : World) : Obj := (.mk (.type "function") none (.func (FuncData.mk "__init__" "InvalidRules.__init__" (L2.defArgs ((MP.clsB (HP.top 5)).getD 0 (.Pass ⟨0, 0, 0, 0⟩))) (FuncBody.stmts (L2.defBody ((MP.clsB (HP.top 5)).getD 0 (.Pass ⟨0, 0, 0, 0⟩)))) (L2.defScope ((MP.clsB (HP.top 5)).getD 0 (.Pass ⟨0, 0, 0, 0⟩))) 3 [] .none .none .none (.str "haulprices.errors" 194) none (.ref 85) .none 0)) (.mk []))
def o1_87 (w : World) : Obj := (.mk (.type "tuple") none (.seq (.mk [(.str "given" 284)]) 0) (.mk []))
def o1_88 (w : World) : Obj := (.mk (.type "dict") none (.dict (.mk [(.mk (HQ.hS w "__module__") (.str "__module__" 271) (.str "haulprices.errors" 194)), (.mk (HQ.hS w "__firstlineno__") (.str "__firstlineno__" 275) (.int (Int.ofNat 15) 274)), (.mk (HQ.hS w "__init__") (.str "__init__" 283) (.ref 86)), (.mk (HQ.hS w "__static_attributes__") (.str "__static_attributes__" 285) (.ref 87)), (.mk (HQ.hS w "__doc__") (.str "__doc__" 286) .none)]) 2) (.mk []))
def o1_89 (w : World) : Obj := (.mk (.type "type") none (.cls (PySem.ClassData.mk "InvalidRules" [(.ref 31)] [(.ref 89), (.ref 31), (.type "ValueError"), (.type "Exception"), (.type "BaseException"), (.type "object")] 88 "InvalidRules" true [] [] false none false)) (.mk [(some (.ref 73)), none, (some (.str "InvalidRules" 264)), (some (.str "InvalidRules" 272)), (some (.builtin "ValueError.__new__")), (some (.bool true))]))
def o1_90 (w : World) : Obj := (.mk (.type "super") none (.fields (.mk [(.ref 89), (.ref 89), (.ref 89)])) (.mk []))
def o1_91 (w : World) : Obj := (.mk (.type "builtin_function_or_method") none (.fields (.mk [(.builtin "object.__init_subclass__"), (.ref 89)])) (.mk []))
def o1_92 (w : World) : Obj := (.mk (.type "tuple") none (.seq (.mk [(.ref 31)]) 0) (.mk []))
def o1_93 (w : World) : Obj := (.mk (.type "builtin_function_or_method") none (.fields (.mk [(.builtin "type.__prepare__"), (.type "type")])) (.mk []))
def o1_94 (w : World) : Obj := (.mk (.type "dict") none (.dict (.mk [(.mk (HQ.hS w "__module__") (.str "__module__" 296) (.str "haulprices.errors" 194)), (.mk (HQ.hS w "__qualname__") (.str "__qualname__" 298) (.str "InvalidText" 297)), (.mk (HQ.hS w "__firstlineno__") (.str "__firstlineno__" 300) (.int (Int.ofNat 19) 299)), (.mk (HQ.hS w "__init__") (.str "__init__" 308) (.ref 105)), (.mk (HQ.hS w "__static_attributes__") (.str "__static_attributes__" 310) (.ref 106))]) 5) (.mk []))
def o1_95 (w : World) : Obj := (.mk (.type "tuple") none (.seq (.mk []) 0) (.mk []))
def o1_96 (w : World) : Obj := (.mk .none none (.fields (.mk [(.int (Int.ofNat 21) 0), (.int (Int.ofNat 4) 0), (.ref 104)])) (.mk []))
def o1_97 (w : World) : Obj := (.mk (.type "code") none (.fields (.mk [(.str "InvalidText" 291), (.str "InvalidText" 292), (.str "/claim/cut.py" 293), (.int (Int.ofNat 19) 0), (.int (Int.ofNat 0) 0), (.int (Int.ofNat 0) 0), (.int (Int.ofNat 0) 0), (.int (Int.ofNat 0) 0), (.ref 95), (.bool false), (.int (Int.ofNat 181) 0), (.ref 96), .none, .none, .none, .none, (.int (Int.ofNat 294) 0), (.int (Int.ofNat 19) 0), (.str "/claim/cut.py" 295)])) (.mk []))
def o1_98 (w : World) : Obj := (.mk (.type "frame") none .plain (.mk [(some (.ref 97)), (some (.ref 3)), (some (.ref 94)), none, (some (.str "haulprices.errors" 194)), none, (some (.ref 0))]))
def o1_99 (w : World) : Obj := (.mk (.type "tuple") none (.seq (.mk []) 0) (.mk []))
def o1_100 (w : World) : Obj := (.mk .none none (.fields (.mk [])) (.mk []))
def o1_101 (w : World) : Obj := (.mk (.type "tuple") none (.seq (.mk [(.str "self" 304), (.str "given" 305)]) 0) (.mk []))
def o1_102 (w : World) : Obj := (.mk (.type "tuple") none (.seq (.mk []) 0) (.mk []))
def o1_103 (w : World) : Obj := (.mk .none none (.func (FuncData.mk "__init__" "InvalidText.__init__" (L2.defArgs ((MP.clsB (HP.top 6)).getD 0 (.Pass ⟨0, 0, 0, 0⟩))) (FuncBody.stmts (L2.defBody ((MP.clsB (HP.top 6)).getD 0 (.Pass ⟨0, 0, 0, 0⟩)))) (L2.defScope ((MP.clsB (HP.top 6)).getD 0 (.Pass ⟨0, 0, 0, 0⟩))) 0 [] .none .none .none .none none .none .none 0)) (.mk []))
def o1_104 (w : World) : Obj := (.mk (.type "code") none (.fields (.mk [(.str "__init__" 301), (.str "InvalidText.__init__" 302), (.str "/claim/cut.py" 303), (.int (Int.ofNat 21) 0), (.int (Int.ofNat 2) 0), (.int (Int.ofNat 0) 0), (.int (Int.ofNat 0) 0), (.int (Int.ofNat 3) 0), (.ref 99), (.bool true), (.int (Int.ofNat 181) 0), (.ref 100), .none, (.ref 101), (.ref 102), (.ref 103), (.int (Int.ofNat 306) 0), (.int (Int.ofNat 21) 0), (.str "/claim/cut.py" 307)])) (.mk []))
def o1_105 (w : World) : Obj := (.mk (.type "function") none (.func (FuncData.mk "__init__" "InvalidText.__init__" (L2.defArgs ((MP.clsB (HP.top 6)).getD 0 (.Pass ⟨0, 0, 0, 0⟩))) (FuncBody.stmts (L2.defBody ((MP.clsB (HP.top 6)).getD 0 (.Pass ⟨0, 0, 0, 0⟩)))) (L2.defScope ((MP.clsB (HP.top 6)).getD 0 (.Pass ⟨0, 0, 0, 0⟩))) 3 [] .none .none .none (.str "haulprices.errors" 194) none (.ref 104) .none 0)) (.mk []))
def o1_106 (w : World) : Obj := (.mk (.type "tuple") none (.seq (.mk [(.str "given" 309)]) 0) (.mk []))
def o1_107 (w : World) : Obj := (.mk (.type "dict") none (.dict (.mk [(.mk (HQ.hS w "__module__") (.str "__module__" 296) (.str "haulprices.errors" 194)), (.mk (HQ.hS w "__firstlineno__") (.str "__firstlineno__" 300) (.int (Int.ofNat 19) 299)), (.mk (HQ.hS w "__init__") (.str "__init__" 308) (.ref 105)), (.mk (HQ.hS w "__static_attributes__") (.str "__static_attributes__" 310) (.ref 106)), (.mk (HQ.hS w "__doc__") (.str "__doc__" 311) .none)]) 2) (.mk []))
def o1_108 (w : World) : Obj := (.mk (.type "type") none (.cls (PySem.ClassData.mk "InvalidText" [(.ref 31)] [(.ref 108), (.ref 31), (.type "ValueError"), (.type "Exception"), (.type "BaseException"), (.type "object")] 107 "InvalidText" true [] [] false none false)) (.mk [(some (.ref 92)), none, (some (.str "InvalidText" 289)), (some (.str "InvalidText" 297)), (some (.builtin "ValueError.__new__")), (some (.bool true))]))
def o1_109 (w : World) : Obj := (.mk (.type "super") none (.fields (.mk [(.ref 108), (.ref 108), (.ref 108)])) (.mk []))
def o1_110 (w : World) : Obj := (.mk (.type "builtin_function_or_method") none (.fields (.mk [(.builtin "object.__init_subclass__"), (.ref 108)])) (.mk []))
def o1_111 (w : World) : Obj := (.mk (.type "tuple") none (.seq (.mk [(.ref 31)]) 0) (.mk []))
def o1_112 (w : World) : Obj := (.mk (.type "builtin_function_or_method") none (.fields (.mk [(.builtin "type.__prepare__"), (.type "type")])) (.mk []))
def o1_113 (w : World) : Obj := (.mk (.type "dict") none (.dict (.mk [(.mk (HQ.hS w "__module__") (.str "__module__" 321) (.str "haulprices.errors" 194)), (.mk (HQ.hS w "__qualname__") (.str "__qualname__" 323) (.str "InvalidRanges" 322)), (.mk (HQ.hS w "__firstlineno__") (.str "__firstlineno__" 325) (.int (Int.ofNat 23) 324)), (.mk (HQ.hS w "__init__") (.str "__init__" 333) (.ref 124)), (.mk (HQ.hS w "__static_attributes__") (.str "__static_attributes__" 335) (.ref 125))]) 5) (.mk []))
def o1_114 (w : World) : Obj := (.mk (.type "tuple") none (.seq (.mk []) 0) (.mk []))
def o1_115 (w : World) : Obj := (.mk .none none (.fields (.mk [(.int (Int.ofNat 25) 0), (.int (Int.ofNat 4) 0), (.ref 123)])) (.mk []))
def o1_116 (w : World) : Obj := (.mk (.type "code") none (.fields (.mk [(.str "InvalidRanges" 316), (.str "InvalidRanges" 317), (.str "/claim/cut.py" 318), (.int (Int.ofNat 23) 0), (.int (Int.ofNat 0) 0), (.int (Int.ofNat 0) 0), (.int (Int.ofNat 0) 0), (.int (Int.ofNat 0) 0), (.ref 114), (.bool false), (.int (Int.ofNat 181) 0), (.ref 115), .none, .none, .none, .none, (.int (Int.ofNat 319) 0), (.int (Int.ofNat 23) 0), (.str "/claim/cut.py" 320)])) (.mk []))
def o1_117 (w : World) : Obj := (.mk (.type "frame") none .plain (.mk [(some (.ref 116)), (some (.ref 3)), (some (.ref 113)), none, (some (.str "haulprices.errors" 194)), none, (some (.ref 0))]))
def o1_118 (w : World) : Obj := (.mk (.type "tuple") none (.seq (.mk []) 0) (.mk []))
def o1_119 (w : World) : Obj := (.mk .none none (.fields (.mk [])) (.mk []))
def o1_120 (w : World) : Obj := (.mk (.type "tuple") none (.seq (.mk [(.str "self" 329), (.str "index" 330)]) 0) (.mk []))
def o1_121 (w : World) : Obj := (.mk (.type "tuple") none (.seq (.mk []) 0) (.mk []))
def o1_122 (w : World) : Obj := (.mk .none none (.func (FuncData.mk "__init__" "InvalidRanges.__init__" (L2.defArgs ((MP.clsB (HP.top 7)).getD 0 (.Pass ⟨0, 0, 0, 0⟩))) (FuncBody.stmts (L2.defBody ((MP.clsB (HP.top 7)).getD 0 (.Pass ⟨0, 0, 0, 0⟩)))) (L2.defScope ((MP.clsB (HP.top 7)).getD 0 (.Pass ⟨0, 0, 0, 0⟩))) 0 [] .none .none .none .none none .none .none 0)) (.mk []))
def o1_123 (w : World) : Obj := (.mk (.type "code") none (.fields (.mk [(.str "__init__" 326), (.str "InvalidRanges.__init__" 327), (.str "/claim/cut.py" 328), (.int (Int.ofNat 25) 0), (.int (Int.ofNat 2) 0), (.int (Int.ofNat 0) 0), (.int (Int.ofNat 0) 0), (.int (Int.ofNat 3) 0), (.ref 118), (.bool true), (.int (Int.ofNat 181) 0), (.ref 119), .none, (.ref 120), (.ref 121), (.ref 122), (.int (Int.ofNat 331) 0), (.int (Int.ofNat 25) 0), (.str "/claim/cut.py" 332)])) (.mk []))
def o1_124 (w : World) : Obj := (.mk (.type "function") none (.func (FuncData.mk "__init__" "InvalidRanges.__init__" (L2.defArgs ((MP.clsB (HP.top 7)).getD 0 (.Pass ⟨0, 0, 0, 0⟩))) (FuncBody.stmts (L2.defBody ((MP.clsB (HP.top 7)).getD 0 (.Pass ⟨0, 0, 0, 0⟩)))) (L2.defScope ((MP.clsB (HP.top 7)).getD 0 (.Pass ⟨0, 0, 0, 0⟩))) 3 [] .none .none .none (.str "haulprices.errors" 194) none (.ref 123) .none 0)) (.mk []))
def o1_125 (w : World) : Obj := (.mk (.type "tuple") none (.seq (.mk [(.str "index" 334)]) 0) (.mk []))
def o1_126 (w : World) : Obj := (.mk (.type "dict") none (.dict (.mk [(.mk (HQ.hS w "__module__") (.str "__module__" 321) (.str "haulprices.errors" 194)), (.mk (HQ.hS w "__firstlineno__") (.str "__firstlineno__" 325) (.int (Int.ofNat 23) 324)), (.mk (HQ.hS w "__init__") (.str "__init__" 333) (.ref 124)), (.mk (HQ.hS w "__static_attributes__") (.str "__static_attributes__" 335) (.ref 125)), (.mk (HQ.hS w "__doc__") (.str "__doc__" 336) .none)]) 2) (.mk []))
def o1_127 (w : World) : Obj := (.mk (.type "type") none (.cls (PySem.ClassData.mk "InvalidRanges" [(.ref 31)] [(.ref 127), (.ref 31), (.type "ValueError"), (.type "Exception"), (.type "BaseException"), (.type "object")] 126 "InvalidRanges" true [] [] false none false)) (.mk [(some (.ref 111)), none, (some (.str "InvalidRanges" 314)), (some (.str "InvalidRanges" 322)), (some (.builtin "ValueError.__new__")), (some (.bool true))]))
def o1_128 (w : World) : Obj := (.mk (.type "super") none (.fields (.mk [(.ref 127), (.ref 127), (.ref 127)])) (.mk []))
def o1_129 (w : World) : Obj := (.mk (.type "builtin_function_or_method") none (.fields (.mk [(.builtin "object.__init_subclass__"), (.ref 127)])) (.mk []))
def o1_130 (w : World) : Obj := (.mk (.type "tuple") none (.seq (.mk [(.ref 31)]) 0) (.mk []))
def o1_131 (w : World) : Obj := (.mk (.type "builtin_function_or_method") none (.fields (.mk [(.builtin "type.__prepare__"), (.type "type")])) (.mk []))
def o1_132 (w : World) : Obj := (.mk (.type "dict") none (.dict (.mk [(.mk (HQ.hS w "__module__") (.str "__module__" 346) (.str "haulprices.errors" 194)), (.mk (HQ.hS w "__qualname__") (.str "__qualname__" 348) (.str "WrongRow" 347)), (.mk (HQ.hS w "__firstlineno__") (.str "__firstlineno__" 350) (.int (Int.ofNat 27) 349)), (.mk (HQ.hS w "__init__") (.str "__init__" 358) (.ref 143)), (.mk (HQ.hS w "__static_attributes__") (.str "__static_attributes__" 360) (.ref 144))]) 5) (.mk []))
def o1_133 (w : World) : Obj := (.mk (.type "tuple") none (.seq (.mk []) 0) (.mk []))
def o1_134 (w : World) : Obj := (.mk .none none (.fields (.mk [(.int (Int.ofNat 29) 0), (.int (Int.ofNat 4) 0), (.ref 142)])) (.mk []))
def o1_135 (w : World) : Obj := (.mk (.type "code") none (.fields (.mk [(.str "WrongRow" 341), (.str "WrongRow" 342), (.str "/claim/cut.py" 343), (.int (Int.ofNat 27) 0), (.int (Int.ofNat 0) 0), (.int (Int.ofNat 0) 0), (.int (Int.ofNat 0) 0), (.int (Int.ofNat 0) 0), (.ref 133), (.bool false), (.int (Int.ofNat 181) 0), (.ref 134), .none, .none, .none, .none, (.int (Int.ofNat 344) 0), (.int (Int.ofNat 27) 0), (.str "/claim/cut.py" 345)])) (.mk []))
def o1_136 (w : World) : Obj := (.mk (.type "frame") none .plain (.mk [(some (.ref 135)), (some (.ref 3)), (some (.ref 132)), none, (some (.str "haulprices.errors" 194)), none, (some (.ref 0))]))
def o1_137 (w : World) : Obj := (.mk (.type "tuple") none (.seq (.mk []) 0) (.mk []))
def o1_138 (w : World) : Obj := (.mk .none none (.fields (.mk [])) (.mk []))
def o1_139 (w : World) : Obj := (.mk (.type "tuple") none (.seq (.mk [(.str "self" 354), (.str "index" 355)]) 0) (.mk []))
def o1_140 (w : World) : Obj := (.mk (.type "tuple") none (.seq (.mk []) 0) (.mk []))
def o1_141 (w : World) : Obj := (.mk .none none (.func (FuncData.mk "__init__" "WrongRow.__init__" (L2.defArgs ((MP.clsB (HP.top 8)).getD 0 (.Pass ⟨0, 0, 0, 0⟩))) (FuncBody.stmts (L2.defBody ((MP.clsB (HP.top 8)).getD 0 (.Pass ⟨0, 0, 0, 0⟩)))) (L2.defScope ((MP.clsB (HP.top 8)).getD 0 (.Pass ⟨0, 0, 0, 0⟩))) 0 [] .none .none .none .none none .none .none 0)) (.mk []))
def o1_142 (w : World) : Obj := (.mk (.type "code") none (.fields (.mk [(.str "__init__" 351), (.str "WrongRow.__init__" 352), (.str "/claim/cut.py" 353), (.int (Int.ofNat 29) 0), (.int (Int.ofNat 2) 0), (.int (Int.ofNat 0) 0), (.int (Int.ofNat 0) 0), (.int (Int.ofNat 3) 0), (.ref 137), (.bool true), (.int (Int.ofNat 181) 0), (.ref 138), .none, (.ref 139), (.ref 140), (.ref 141), (.int (Int.ofNat 356) 0), (.int (Int.ofNat 29) 0), (.str "/claim/cut.py" 357)])) (.mk []))
def o1_143 (w : World) : Obj := (.mk (.type "function") none (.func (FuncData.mk "__init__" "WrongRow.__init__" (L2.defArgs ((MP.clsB (HP.top 8)).getD 0 (.Pass ⟨0, 0, 0, 0⟩))) (FuncBody.stmts (L2.defBody ((MP.clsB (HP.top 8)).getD 0 (.Pass ⟨0, 0, 0, 0⟩)))) (L2.defScope ((MP.clsB (HP.top 8)).getD 0 (.Pass ⟨0, 0, 0, 0⟩))) 3 [] .none .none .none (.str "haulprices.errors" 194) none (.ref 142) .none 0)) (.mk []))
def o1_144 (w : World) : Obj := (.mk (.type "tuple") none (.seq (.mk [(.str "index" 359)]) 0) (.mk []))
def o1_145 (w : World) : Obj := (.mk (.type "dict") none (.dict (.mk [(.mk (HQ.hS w "__module__") (.str "__module__" 346) (.str "haulprices.errors" 194)), (.mk (HQ.hS w "__firstlineno__") (.str "__firstlineno__" 350) (.int (Int.ofNat 27) 349)), (.mk (HQ.hS w "__init__") (.str "__init__" 358) (.ref 143)), (.mk (HQ.hS w "__static_attributes__") (.str "__static_attributes__" 360) (.ref 144)), (.mk (HQ.hS w "__doc__") (.str "__doc__" 361) .none)]) 2) (.mk []))
def o1_146 (w : World) : Obj := (.mk (.type "type") none (.cls (PySem.ClassData.mk "WrongRow" [(.ref 31)] [(.ref 146), (.ref 31), (.type "ValueError"), (.type "Exception"), (.type "BaseException"), (.type "object")] 145 "WrongRow" true [] [] false none false)) (.mk [(some (.ref 130)), none, (some (.str "WrongRow" 339)), (some (.str "WrongRow" 347)), (some (.builtin "ValueError.__new__")), (some (.bool true))]))
def o1_147 (w : World) : Obj := (.mk (.type "super") none (.fields (.mk [(.ref 146), (.ref 146), (.ref 146)])) (.mk []))
def o1_148 (w : World) : Obj := (.mk (.type "builtin_function_or_method") none (.fields (.mk [(.builtin "object.__init_subclass__"), (.ref 146)])) (.mk []))
def o1_149 (w : World) : Obj := (.mk (.type "tuple") none (.seq (.mk [(.str "both" 372), (.str "long" 373), (.str "parts" 374)]) 0) (.mk []))
def o1_150 (w : World) : Obj := (.mk (.type "tuple") none (.seq (.mk []) 0) (.mk []))
def o1_151 (w : World) : Obj := (.mk .none none (.fields (.mk [])) (.mk []))
def o1_152 (w : World) : Obj := (.mk (.type "tuple") none (.seq (.mk [(.str "value" 379)]) 0) (.mk []))
def o1_153 (w : World) : Obj := (.mk (.type "tuple") none (.seq (.mk []) 0) (.mk []))
def o1_154 (w : World) : Obj := (.mk .none none (.func (FuncData.mk "is_integer" "is_integer" (L2.defArgs (HP.top 13)) (FuncBody.stmts (L2.defBody (HP.top 13))) (L2.defScope (HP.top 13)) 0 [] .none .none .none .none none .none .none 0)) (.mk []))
def o1_155 (w : World) : Obj := (.mk (.type "code") none (.fields (.mk [(.str "is_integer" 376), (.str "is_integer" 377), (.str "/claim/cut.py" 378), (.int (Int.ofNat 35) 0), (.int (Int.ofNat 1) 0), (.int (Int.ofNat 0) 0), (.int (Int.ofNat 0) 0), (.int (Int.ofNat 3) 0), (.ref 150), (.bool true), (.int (Int.ofNat 181) 0), (.ref 151), .none, (.ref 152), (.ref 153), (.ref 154), (.int (Int.ofNat 380) 0), (.int (Int.ofNat 35) 0), (.str "/claim/cut.py" 381)])) (.mk []))
def o1_156 (w : World) : Obj := (.mk (.type "function") none (.func (FuncData.mk "is_integer" "is_integer" (L2.defArgs (HP.top 13)) (FuncBody.stmts (L2.defBody (HP.top 13))) (L2.defScope (HP.top 13)) 3 [] .none .none .none (.str "haulprices.hauls" 370) none (.ref 155) .none 0)) (.mk []))
def o1_157 (w : World) : Obj := (.mk (.type "tuple") none (.seq (.mk []) 0) (.mk []))
def o1_158 (w : World) : Obj := (.mk .none none (.fields (.mk [])) (.mk []))
def o1_159 (w : World) : Obj := (.mk (.type "tuple") none (.seq (.mk [(.str "value" 386), (.str "low" 387), (.str "high" 388)]) 0) (.mk []))
def o1_160 (w : World) : Obj := (.mk (.type "tuple") none (.seq (.mk []) 0) (.mk []))
def o1_161 (w : World) : Obj := (.mk .none none (.func (FuncData.mk "is_within" "is_within" (L2.defArgs (HP.top 14)) (FuncBody.stmts (L2.defBody (HP.top 14))) (L2.defScope (HP.top 14)) 0 [] .none .none .none .none none .none .none 0)) (.mk []))
def o1_162 (w : World) : Obj := (.mk (.type "code") none (.fields (.mk [(.str "is_within" 383), (.str "is_within" 384), (.str "/claim/cut.py" 385), (.int (Int.ofNat 37) 0), (.int (Int.ofNat 3) 0), (.int (Int.ofNat 0) 0), (.int (Int.ofNat 0) 0), (.int (Int.ofNat 3) 0), (.ref 157), (.bool true), (.int (Int.ofNat 181) 0), (.ref 158), .none, (.ref 159), (.ref 160), (.ref 161), (.int (Int.ofNat 389) 0), (.int (Int.ofNat 37) 0), (.str "/claim/cut.py" 390)])) (.mk []))
def o1_163 (w : World) : Obj := (.mk (.type "function") none (.func (FuncData.mk "is_within" "is_within" (L2.defArgs (HP.top 14)) (FuncBody.stmts (L2.defBody (HP.top 14))) (L2.defScope (HP.top 14)) 3 [] .none .none .none (.str "haulprices.hauls" 370) none (.ref 162) .none 0)) (.mk []))
def o1_164 (w : World) : Obj := (.mk (.type "tuple") none (.seq (.mk []) 0) (.mk []))
def o1_165 (w : World) : Obj := (.mk .none none (.fields (.mk [])) (.mk []))
def o1_166 (w : World) : Obj := (.mk (.type "tuple") none (.seq (.mk [(.str "value" 395)]) 0) (.mk []))
def o1_167 (w : World) : Obj := (.mk (.type "tuple") none (.seq (.mk []) 0) (.mk []))
def o1_168 (w : World) : Obj := (.mk .none none (.func (FuncData.mk "is_price" "is_price" (L2.defArgs (HP.top 15)) (FuncBody.stmts (L2.defBody (HP.top 15))) (L2.defScope (HP.top 15)) 0 [] .none .none .none .none none .none .none 0)) (.mk []))
def o1_169 (w : World) : Obj := (.mk (.type "code") none (.fields (.mk [(.str "is_price" 392), (.str "is_price" 393), (.str "/claim/cut.py" 394), (.int (Int.ofNat 39) 0), (.int (Int.ofNat 1) 0), (.int (Int.ofNat 0) 0), (.int (Int.ofNat 0) 0), (.int (Int.ofNat 3) 0), (.ref 164), (.bool true), (.int (Int.ofNat 181) 0), (.ref 165), .none, (.ref 166), (.ref 167), (.ref 168), (.int (Int.ofNat 396) 0), (.int (Int.ofNat 39) 0), (.str "/claim/cut.py" 397)])) (.mk []))
def o1_170 (w : World) : Obj := (.mk (.type "function") none (.func (FuncData.mk "is_price" "is_price" (L2.defArgs (HP.top 15)) (FuncBody.stmts (L2.defBody (HP.top 15))) (L2.defScope (HP.top 15)) 3 [] .none .none .none (.str "haulprices.hauls" 370) none (.ref 169) .none 0)) (.mk []))
def o1_171 (w : World) : Obj := (.mk (.type "tuple") none (.seq (.mk []) 0) (.mk []))
def o1_172 (w : World) : Obj := (.mk .none none (.fields (.mk [])) (.mk []))
def o1_173 (w : World) : Obj := (.mk .none none (.func (FuncData.mk "is_haul" "is_haul" (L2.defArgs (HP.top 16)) (FuncBody.stmts (L2.defBody (HP.top 16))) (L2.defScope (HP.top 16)) 0 [] .none .none .none .none none .none .none 0)) (.mk []))
def o1_174 (w : World) : Obj := (.mk (.type "code") none (.fields (.mk [(.str "is_haul" 399), (.str "is_haul" 400), (.str "/claim/cut.py" 401), (.int (Int.ofNat 41) 0), (.int (Int.ofNat 2) 0), (.int (Int.ofNat 0) 0), (.int (Int.ofNat 0) 0), (.int (Int.ofNat 3) 0), (.ref 171), (.bool true), (.int (Int.ofNat 181) 0), (.ref 172), .none, .none, .none, (.ref 173), (.int (Int.ofNat 402) 0), (.int (Int.ofNat 41) 0), (.str "/claim/cut.py" 403)])) (.mk []))
def o1_175 (w : World) : Obj := (.mk (.type "function") none (.func (FuncData.mk "is_haul" "is_haul" (L2.defArgs (HP.top 16)) (FuncBody.stmts (L2.defBody (HP.top 16))) (L2.defScope (HP.top 16)) 3 [] .none .none .none (.str "haulprices.hauls" 370) none (.ref 174) .none 0)) (.mk []))
def o1_176 (w : World) : Obj := (.mk (.type "tuple") none (.seq (.mk []) 0) (.mk []))
def o1_177 (w : World) : Obj := (.mk .none none (.fields (.mk [])) (.mk []))
def o1_178 (w : World) : Obj := (.mk (.type "tuple") none (.seq (.mk [(.str "value" 408)]) 0) (.mk []))
def o1_179 (w : World) : Obj := (.mk (.type "tuple") none (.seq (.mk []) 0) (.mk []))
def o1_180 (w : World) : Obj := (.mk .none none (.func (FuncData.mk "is_rules" "is_rules" (L2.defArgs (HP.top 17)) (FuncBody.stmts (L2.defBody (HP.top 17))) (L2.defScope (HP.top 17)) 0 [] .none .none .none .none none .none .none 0)) (.mk []))
def o1_181 (w : World) : Obj := (.mk (.type "code") none (.fields (.mk [(.str "is_rules" 405), (.str "is_rules" 406), (.str "/claim/cut.py" 407), (.int (Int.ofNat 45) 0), (.int (Int.ofNat 1) 0), (.int (Int.ofNat 0) 0), (.int (Int.ofNat 0) 0), (.int (Int.ofNat 3) 0), (.ref 176), (.bool true), (.int (Int.ofNat 181) 0), (.ref 177), .none, (.ref 178), (.ref 179), (.ref 180), (.int (Int.ofNat 409) 0), (.int (Int.ofNat 45) 0), (.str "/claim/cut.py" 410)])) (.mk []))
def o1_182 (w : World) : Obj := (.mk (.type "function") none (.func (FuncData.mk "is_rules" "is_rules" (L2.defArgs (HP.top 17)) (FuncBody.stmts (L2.defBody (HP.top 17))) (L2.defScope (HP.top 17)) 3 [] .none .none .none (.str "haulprices.hauls" 370) none (.ref 181) .none 0)) (.mk []))
def o1_183 (w : World) : Obj := (.mk (.type "tuple") none (.seq (.mk []) 0) (.mk []))
def o1_184 (w : World) : Obj := (.mk .none none (.fields (.mk [])) (.mk []))
def o1_185 (w : World) : Obj := (.mk (.type "tuple") none (.seq (.mk [(.str "one" 415), (.str "other" 416)]) 0) (.mk []))
def o1_186 (w : World) : Obj := (.mk (.type "tuple") none (.seq (.mk []) 0) (.mk []))
def o1_187 (w : World) : Obj := (.mk .none none (.func (FuncData.mk "lies_within" "lies_within" (L2.defArgs (HP.top 18)) (FuncBody.stmts (L2.defBody (HP.top 18))) (L2.defScope (HP.top 18)) 0 [] .none .none .none .none none .none .none 0)) (.mk []))
def o1_188 (w : World) : Obj := (.mk (.type "code") none (.fields (.mk [(.str "lies_within" 412), (.str "lies_within" 413), (.str "/claim/cut.py" 414), (.int (Int.ofNat 47) 0), (.int (Int.ofNat 2) 0), (.int (Int.ofNat 0) 0), (.int (Int.ofNat 0) 0), (.int (Int.ofNat 3) 0), (.ref 183), (.bool true), (.int (Int.ofNat 181) 0), (.ref 184), .none, (.ref 185), (.ref 186), (.ref 187), (.int (Int.ofNat 417) 0), (.int (Int.ofNat 47) 0), (.str "/claim/cut.py" 418)])) (.mk []))
def o1_189 (w : World) : Obj := (.mk (.type "function") none (.func (FuncData.mk "lies_within" "lies_within" (L2.defArgs (HP.top 18)) (FuncBody.stmts (L2.defBody (HP.top 18))) (L2.defScope (HP.top 18)) 3 [] .none .none .none (.str "haulprices.hauls" 370) none (.ref 188) .none 0)) (.mk []))
def o1_190 (w : World) : Obj := (.mk (.type "tuple") none (.seq (.mk []) 0) (.mk []))
def o1_191 (w : World) : Obj := (.mk .none none (.fields (.mk [])) (.mk []))
def o1_192 (w : World) : Obj := (.mk .none none (.func (FuncData.mk "hauls_of" "hauls_of" (L2.defArgs (HP.top 19)) (FuncBody.stmts (L2.defBody (HP.top 19))) (L2.defScope (HP.top 19)) 0 [] .none .none .none .none none .none .none 0)) (.mk []))
def o1_193 (w : World) : Obj := (.mk (.type "code") none (.fields (.mk [(.str "hauls_of" 420), (.str "hauls_of" 421), (.str "/claim/cut.py" 422), (.int (Int.ofNat 49) 0), (.int (Int.ofNat 1) 0), (.int (Int.ofNat 0) 0), (.int (Int.ofNat 0) 0), (.int (Int.ofNat 3) 0), (.ref 190), (.bool true), (.int (Int.ofNat 181) 0), (.ref 191), .none, .none, .none, (.ref 192), (.int (Int.ofNat 423) 0), (.int (Int.ofNat 49) 0), (.str "/claim/cut.py" 424)])) (.mk []))
def o1_194 (w : World) : Obj := (.mk (.type "function") none (.func (FuncData.mk "hauls_of" "hauls_of" (L2.defArgs (HP.top 19)) (FuncBody.stmts (L2.defBody (HP.top 19))) (L2.defScope (HP.top 19)) 3 [] .none .none .none (.str "haulprices.hauls" 370) none (.ref 193) .none 0)) (.mk []))
def o1_195 (w : World) : Obj := (.mk (.type "tuple") none (.seq (.mk []) 0) (.mk []))
def o1_196 (w : World) : Obj := (.mk .none none (.fields (.mk [])) (.mk []))
def o1_197 (w : World) : Obj := (.mk .none none (.func (FuncData.mk "triples_of" "triples_of" (L2.defArgs (HP.top 20)) (FuncBody.stmts (L2.defBody (HP.top 20))) (L2.defScope (HP.top 20)) 0 [] .none .none .none .none none .none .none 0)) (.mk []))
def o1_198 (w : World) : Obj := (.mk (.type "code") none (.fields (.mk [(.str "triples_of" 426), (.str "triples_of" 427), (.str "/claim/cut.py" 428), (.int (Int.ofNat 54) 0), (.int (Int.ofNat 1) 0), (.int (Int.ofNat 0) 0), (.int (Int.ofNat 0) 0), (.int (Int.ofNat 3) 0), (.ref 195), (.bool true), (.int (Int.ofNat 181) 0), (.ref 196), .none, .none, .none, (.ref 197), (.int (Int.ofNat 429) 0), (.int (Int.ofNat 54) 0), (.str "/claim/cut.py" 430)])) (.mk []))
def o1_199 (w : World) : Obj := (.mk (.type "function") none (.func (FuncData.mk "triples_of" "triples_of" (L2.defArgs (HP.top 20)) (FuncBody.stmts (L2.defBody (HP.top 20))) (L2.defScope (HP.top 20)) 3 [] .none .none .none (.str "haulprices.hauls" 370) none (.ref 198) .none 0)) (.mk []))
def o1_200 (w : World) : Obj := (.mk (.type "tuple") none (.seq (.mk []) 0) (.mk []))
def o1_201 (w : World) : Obj := (.mk .none none (.fields (.mk [])) (.mk []))
def o1_202 (w : World) : Obj := (.mk .none none (.func (FuncData.mk "costs_in" "costs_in" (L2.defArgs (HP.top 21)) (FuncBody.stmts (L2.defBody (HP.top 21))) (L2.defScope (HP.top 21)) 0 [] .none .none .none .none none .none .none 0)) (.mk []))
def o1_203 (w : World) : Obj := (.mk (.type "code") none (.fields (.mk [(.str "costs_in" 432), (.str "costs_in" 433), (.str "/claim/cut.py" 434), (.int (Int.ofNat 59) 0), (.int (Int.ofNat 1) 0), (.int (Int.ofNat 0) 0), (.int (Int.ofNat 0) 0), (.int (Int.ofNat 3) 0), (.ref 200), (.bool true), (.int (Int.ofNat 181) 0), (.ref 201), .none, .none, .none, (.ref 202), (.int (Int.ofNat 435) 0), (.int (Int.ofNat 59) 0), (.str "/claim/cut.py" 436)])) (.mk []))
def o1_204 (w : World) : Obj := (.mk (.type "function") none (.func (FuncData.mk "costs_in" "costs_in" (L2.defArgs (HP.top 21)) (FuncBody.stmts (L2.defBody (HP.top 21))) (L2.defScope (HP.top 21)) 3 [] .none .none .none (.str "haulprices.hauls" 370) none (.ref 203) .none 0)) (.mk []))
def o1_205 (w : World) : Obj := (.mk (.type "tuple") none (.seq (.mk []) 0) (.mk []))
def o1_206 (w : World) : Obj := (.mk .none none (.fields (.mk [])) (.mk []))
def o1_207 (w : World) : Obj := (.mk (.type "tuple") none (.seq (.mk [(.str "stops" 441)]) 0) (.mk []))
def o1_208 (w : World) : Obj := (.mk (.type "tuple") none (.seq (.mk []) 0) (.mk []))
def o1_209 (w : World) : Obj := (.mk .none none (.func (FuncData.mk "check_stops" "check_stops" (L2.defArgs (HP.top 22)) (FuncBody.stmts (L2.defBody (HP.top 22))) (L2.defScope (HP.top 22)) 0 [] .none .none .none .none none .none .none 0)) (.mk []))
def o1_210 (w : World) : Obj := (.mk (.type "code") none (.fields (.mk [(.str "check_stops" 438), (.str "check_stops" 439), (.str "/claim/cut.py" 440), (.int (Int.ofNat 61) 0), (.int (Int.ofNat 1) 0), (.int (Int.ofNat 0) 0), (.int (Int.ofNat 0) 0), (.int (Int.ofNat 3) 0), (.ref 205), (.bool true), (.int (Int.ofNat 181) 0), (.ref 206), .none, (.ref 207), (.ref 208), (.ref 209), (.int (Int.ofNat 442) 0), (.int (Int.ofNat 61) 0), (.str "/claim/cut.py" 443)])) (.mk []))
def o1_211 (w : World) : Obj := (.mk (.type "function") none (.func (FuncData.mk "check_stops" "check_stops" (L2.defArgs (HP.top 22)) (FuncBody.stmts (L2.defBody (HP.top 22))) (L2.defScope (HP.top 22)) 3 [] .none .none .none (.str "haulprices.hauls" 370) none (.ref 210) .none 0)) (.mk []))
def o1_212 (w : World) : Obj := (.mk (.type "tuple") none (.seq (.mk []) 0) (.mk []))
def o1_213 (w : World) : Obj := (.mk .none none (.fields (.mk [])) (.mk []))
def o1_214 (w : World) : Obj := (.mk (.type "tuple") none (.seq (.mk [(.str "haul" 448), (.str "stops" 449)]) 0) (.mk []))
def o1_215 (w : World) : Obj := (.mk (.type "tuple") none (.seq (.mk []) 0) (.mk []))
def o1_216 (w : World) : Obj := (.mk .none none (.func (FuncData.mk "check_haul" "check_haul" (L2.defArgs (HP.top 23)) (FuncBody.stmts (L2.defBody (HP.top 23))) (L2.defScope (HP.top 23)) 0 [] .none .none .none .none none .none .none 0)) (.mk []))
def o1_217 (w : World) : Obj := (.mk (.type "code") none (.fields (.mk [(.str "check_haul" 445), (.str "check_haul" 446), (.str "/claim/cut.py" 447), (.int (Int.ofNat 64) 0), (.int (Int.ofNat 2) 0), (.int (Int.ofNat 0) 0), (.int (Int.ofNat 0) 0), (.int (Int.ofNat 3) 0), (.ref 212), (.bool true), (.int (Int.ofNat 181) 0), (.ref 213), .none, (.ref 214), (.ref 215), (.ref 216), (.int (Int.ofNat 450) 0), (.int (Int.ofNat 64) 0), (.str "/claim/cut.py" 451)])) (.mk []))
def o1_218 (w : World) : Obj := (.mk (.type "function") none (.func (FuncData.mk "check_haul" "check_haul" (L2.defArgs (HP.top 23)) (FuncBody.stmts (L2.defBody (HP.top 23))) (L2.defScope (HP.top 23)) 3 [] .none .none .none (.str "haulprices.hauls" 370) none (.ref 217) .none 0)) (.mk []))
def o1_219 (w : World) : Obj := (.mk (.type "tuple") none (.seq (.mk []) 0) (.mk []))
def o1_220 (w : World) : Obj := (.mk .none none (.fields (.mk [])) (.mk []))
def o1_221 (w : World) : Obj := (.mk (.type "tuple") none (.seq (.mk [(.str "rules" 456)]) 0) (.mk []))
def o1_222 (w : World) : Obj := (.mk (.type "tuple") none (.seq (.mk []) 0) (.mk []))
def o1_223 (w : World) : Obj := (.mk .none none (.func (FuncData.mk "check_rules" "check_rules" (L2.defArgs (HP.top 24)) (FuncBody.stmts (L2.defBody (HP.top 24))) (L2.defScope (HP.top 24)) 0 [] .none .none .none .none none .none .none 0)) (.mk []))
def o1_224 (w : World) : Obj := (.mk (.type "code") none (.fields (.mk [(.str "check_rules" 453), (.str "check_rules" 454), (.str "/claim/cut.py" 455), (.int (Int.ofNat 67) 0), (.int (Int.ofNat 1) 0), (.int (Int.ofNat 0) 0), (.int (Int.ofNat 0) 0), (.int (Int.ofNat 3) 0), (.ref 219), (.bool true), (.int (Int.ofNat 181) 0), (.ref 220), .none, (.ref 221), (.ref 222), (.ref 223), (.int (Int.ofNat 457) 0), (.int (Int.ofNat 67) 0), (.str "/claim/cut.py" 458)])) (.mk []))
def o1_225 (w : World) : Obj := (.mk (.type "function") none (.func (FuncData.mk "check_rules" "check_rules" (L2.defArgs (HP.top 24)) (FuncBody.stmts (L2.defBody (HP.top 24))) (L2.defScope (HP.top 24)) 3 [] .none .none .none (.str "haulprices.hauls" 370) none (.ref 224) .none 0)) (.mk []))
def o1_226 (w : World) : Obj := (.mk (.type "tuple") none (.seq (.mk []) 0) (.mk []))
def o1_227 (w : World) : Obj := (.mk .none none (.fields (.mk [])) (.mk []))
def o1_228 (w : World) : Obj := (.mk (.type "tuple") none (.seq (.mk [(.str "value" 467), (.str "stops" 468)]) 0) (.mk []))
def o1_229 (w : World) : Obj := (.mk (.type "tuple") none (.seq (.mk []) 0) (.mk []))
def o1_230 (w : World) : Obj := (.mk .none none (.func (FuncData.mk "is_range" "is_range" (L2.defArgs (HP.top 27)) (FuncBody.stmts (L2.defBody (HP.top 27))) (L2.defScope (HP.top 27)) 0 [] .none .none .none .none none .none .none 0)) (.mk []))
def o1_231 (w : World) : Obj := (.mk (.type "code") none (.fields (.mk [(.str "is_range" 464), (.str "is_range" 465), (.str "/claim/cut.py" 466), (.int (Int.ofNat 72) 0), (.int (Int.ofNat 2) 0), (.int (Int.ofNat 0) 0), (.int (Int.ofNat 0) 0), (.int (Int.ofNat 3) 0), (.ref 226), (.bool true), (.int (Int.ofNat 181) 0), (.ref 227), .none, (.ref 228), (.ref 229), (.ref 230), (.int (Int.ofNat 469) 0), (.int (Int.ofNat 72) 0), (.str "/claim/cut.py" 470)])) (.mk []))
def o1_232 (w : World) : Obj := (.mk (.type "function") none (.func (FuncData.mk "is_range" "is_range" (L2.defArgs (HP.top 27)) (FuncBody.stmts (L2.defBody (HP.top 27))) (L2.defScope (HP.top 27)) 3 [] .none .none .none (.str "haulprices.bounds" 460) none (.ref 231) .none 0)) (.mk []))
def o1_233 (w : World) : Obj := (.mk (.type "tuple") none (.seq (.mk []) 0) (.mk []))
def o1_234 (w : World) : Obj := (.mk .none none (.fields (.mk [])) (.mk []))
def o1_235 (w : World) : Obj := (.mk .none none (.func (FuncData.mk "number_in" "number_in" (L2.defArgs (HP.top 28)) (FuncBody.stmts (L2.defBody (HP.top 28))) (L2.defScope (HP.top 28)) 0 [] .none .none .none .none none .none .none 0)) (.mk []))
def o1_236 (w : World) : Obj := (.mk (.type "code") none (.fields (.mk [(.str "number_in" 472), (.str "number_in" 473), (.str "/claim/cut.py" 474), (.int (Int.ofNat 76) 0), (.int (Int.ofNat 1) 0), (.int (Int.ofNat 0) 0), (.int (Int.ofNat 0) 0), (.int (Int.ofNat 3) 0), (.ref 233), (.bool true), (.int (Int.ofNat 181) 0), (.ref 234), .none, .none, .none, (.ref 235), (.int (Int.ofNat 475) 0), (.int (Int.ofNat 76) 0), (.str "/claim/cut.py" 476)])) (.mk []))
def o1_237 (w : World) : Obj := (.mk (.type "function") none (.func (FuncData.mk "number_in" "number_in" (L2.defArgs (HP.top 28)) (FuncBody.stmts (L2.defBody (HP.top 28))) (L2.defScope (HP.top 28)) 3 [] .none .none .none (.str "haulprices.bounds" 460) none (.ref 236) .none 0)) (.mk []))
def o1_238 (w : World) : Obj := (.mk (.type "tuple") none (.seq (.mk []) 0) (.mk []))
def o1_239 (w : World) : Obj := (.mk .none none (.fields (.mk [])) (.mk []))
def o1_240 (w : World) : Obj := (.mk (.type "tuple") none (.seq (.mk [(.str "line" 481), (.str "words" 482), (.str "stops" 483)]) 0) (.mk []))
def o1_241 (w : World) : Obj := (.mk (.type "tuple") none (.seq (.mk []) 0) (.mk []))
def o1_242 (w : World) : Obj := (.mk .none none (.func (FuncData.mk "stops_in" "stops_in" (L2.defArgs (HP.top 29)) (FuncBody.stmts (L2.defBody (HP.top 29))) (L2.defScope (HP.top 29)) 0 [] .none .none .none .none none .none .none 0)) (.mk []))
def o1_243 (w : World) : Obj := (.mk (.type "code") none (.fields (.mk [(.str "stops_in" 478), (.str "stops_in" 479), (.str "/claim/cut.py" 480), (.int (Int.ofNat 80) 0), (.int (Int.ofNat 1) 0), (.int (Int.ofNat 0) 0), (.int (Int.ofNat 0) 0), (.int (Int.ofNat 3) 0), (.ref 238), (.bool true), (.int (Int.ofNat 181) 0), (.ref 239), .none, (.ref 240), (.ref 241), (.ref 242), (.int (Int.ofNat 484) 0), (.int (Int.ofNat 80) 0), (.str "/claim/cut.py" 485)])) (.mk []))
def o1_244 (w : World) : Obj := (.mk (.type "function") none (.func (FuncData.mk "stops_in" "stops_in" (L2.defArgs (HP.top 29)) (FuncBody.stmts (L2.defBody (HP.top 29))) (L2.defScope (HP.top 29)) 3 [] .none .none .none (.str "haulprices.bounds" 460) none (.ref 243) .none 0)) (.mk []))
def o1_245 (w : World) : Obj := (.mk (.type "tuple") none (.seq (.mk []) 0) (.mk []))
def o1_246 (w : World) : Obj := (.mk .none none (.fields (.mk [])) (.mk []))
def o1_247 (w : World) : Obj := (.mk .none none (.func (FuncData.mk "range_in" "range_in" (L2.defArgs (HP.top 30)) (FuncBody.stmts (L2.defBody (HP.top 30))) (L2.defScope (HP.top 30)) 0 [] .none .none .none .none none .none .none 0)) (.mk []))
def o1_248 (w : World) : Obj := (.mk (.type "code") none (.fields (.mk [(.str "range_in" 487), (.str "range_in" 488), (.str "/claim/cut.py" 489), (.int (Int.ofNat 84) 0), (.int (Int.ofNat 2) 0), (.int (Int.ofNat 0) 0), (.int (Int.ofNat 0) 0), (.int (Int.ofNat 3) 0), (.ref 245), (.bool true), (.int (Int.ofNat 181) 0), (.ref 246), .none, .none, .none, (.ref 247), (.int (Int.ofNat 490) 0), (.int (Int.ofNat 84) 0), (.str "/claim/cut.py" 491)])) (.mk []))
def o1_249 (w : World) : Obj := (.mk (.type "function") none (.func (FuncData.mk "range_in" "range_in" (L2.defArgs (HP.top 30)) (FuncBody.stmts (L2.defBody (HP.top 30))) (L2.defScope (HP.top 30)) 3 [] .none .none .none (.str "haulprices.bounds" 460) none (.ref 248) .none 0)) (.mk []))
def l1_0 (w : World) : List Obj := [o1_0 w, o1_1 w, o1_2 w, o1_3 w, o1_4 w, o1_5 w, o1_6 w, o1_7 w, o1_8 w, o1_9 w, o1_10 w, o1_11 w, o1_12 w, o1_13 w, o1_14 w, o1_15 w, o1_16 w, o1_17 w, o1_18 w, o1_19 w, o1_20 w, o1_21 w, o1_22 w, o1_23 w, o1_24 w]
def l1_1 (w : World) : List Obj := [o1_25 w, o1_26 w, o1_27 w, o1_28 w, o1_29 w, o1_30 w, o1_31 w, o1_32 w, o1_33 w, o1_34 w, o1_35 w, o1_36 w, o1_37 w, o1_38 w, o1_39 w, o1_40 w, o1_41 w, o1_42 w, o1_43 w, o1_44 w, o1_45 w, o1_46 w, o1_47 w, o1_48 w, o1_49 w]
def l1_2 (w : World) : List Obj := [o1_50 w, o1_51 w, o1_52 w, o1_53 w, o1_54 w, o1_55 w, o1_56 w, o1_57 w, o1_58 w, o1_59 w, o1_60 w, o1_61 w, o1_62 w, o1_63 w, o1_64 w, o1_65 w, o1_66 w, o1_67 w, o1_68 w, o1_69 w, o1_70 w, o1_71 w, o1_72 w, o1_73 w, o1_74 w]
def l1_3 (w : World) : List Obj := [o1_75 w, o1_76 w, o1_77 w, o1_78 w, o1_79 w, o1_80 w, o1_81 w, o1_82 w, o1_83 w, o1_84 w, o1_85 w, o1_86 w, o1_87 w, o1_88 w, o1_89 w, o1_90 w, o1_91 w, o1_92 w, o1_93 w, o1_94 w, o1_95 w, o1_96 w, o1_97 w, o1_98 w, o1_99 w]
def l1_4 (w : World) : List Obj := [o1_100 w, o1_101 w, o1_102 w, o1_103 w, o1_104 w, o1_105 w, o1_106 w, o1_107 w, o1_108 w, o1_109 w, o1_110 w, o1_111 w, o1_112 w, o1_113 w, o1_114 w, o1_115 w, o1_116 w, o1_117 w, o1_118 w, o1_119 w, o1_120 w, o1_121 w, o1_122 w, o1_123 w, o1_124 w]
def l1_5 (w : World) : List Obj := [o1_125 w, o1_126 w, o1_127 w, o1_128 w, o1_129 w, o1_130 w, o1_131 w, o1_132 w, o1_133 w, o1_134 w, o1_135 w, o1_136 w, o1_137 w, o1_138 w, o1_139 w, o1_140 w, o1_141 w, o1_142 w, o1_143 w, o1_144 w, o1_145 w, o1_146 w, o1_147 w, o1_148 w, o1_149 w]
def l1_6 (w : World) : List Obj := [o1_150 w, o1_151 w, o1_152 w, o1_153 w, o1_154 w, o1_155 w, o1_156 w, o1_157 w, o1_158 w, o1_159 w, o1_160 w, o1_161 w, o1_162 w, o1_163 w, o1_164 w, o1_165 w, o1_166 w, o1_167 w, o1_168 w, o1_169 w, o1_170 w, o1_171 w, o1_172 w, o1_173 w, o1_174 w]
def l1_7 (w : World) : List Obj := [o1_175 w, o1_176 w, o1_177 w, o1_178 w, o1_179 w, o1_180 w, o1_181 w, o1_182 w, o1_183 w, o1_184 w, o1_185 w, o1_186 w, o1_187 w, o1_188 w, o1_189 w, o1_190 w, o1_191 w, o1_192 w, o1_193 w, o1_194 w, o1_195 w, o1_196 w, o1_197 w, o1_198 w, o1_199 w]
def l1_8 (w : World) : List Obj := [o1_200 w, o1_201 w, o1_202 w, o1_203 w, o1_204 w, o1_205 w, o1_206 w, o1_207 w, o1_208 w, o1_209 w, o1_210 w, o1_211 w, o1_212 w, o1_213 w, o1_214 w, o1_215 w, o1_216 w, o1_217 w, o1_218 w, o1_219 w, o1_220 w, o1_221 w, o1_222 w, o1_223 w, o1_224 w]
def l1_9 (w : World) : List Obj := [o1_225 w, o1_226 w, o1_227 w, o1_228 w, o1_229 w, o1_230 w, o1_231 w, o1_232 w, o1_233 w, o1_234 w, o1_235 w, o1_236 w, o1_237 w, o1_238 w, o1_239 w, o1_240 w, o1_241 w, o1_242 w, o1_243 w, o1_244 w, o1_245 w, o1_246 w, o1_247 w, o1_248 w, o1_249 w]
def ll1 (w : World) : List Obj := l1_0 w ++ (l1_1 w ++ (l1_2 w ++ (l1_3 w ++ (l1_4 w ++ (l1_5 w ++ (l1_6 w ++ (l1_7 w ++ (l1_8 w ++ (l1_9 w)))))))))
def S1 (w : World) (os : OsState) : SharedT := stOf w os (ll1 w) 250 493
def T1 (w : World) (os : OsState) : Thread := thOf PG w os 13 14 31 (PySem.Pos.mk 84 0 90 100)
theorem part1 (w : World) (os : OsState) : beg (stepQ (denQ tabQ) PG w) 2223 PG w os = some (S1 w os, T1 w os) := by kernel_rfl
def o2_3 (w : World) : Obj := (.mk (.type "dict") none (.dict (.mk (.cons (.mk (HQ.hS w "__name__") (.str "__name__" 165) (.str "law_haulprices_k65_claims_of_any_kind" 1011)) (.cons (.mk (HQ.hS w "__doc__") (.str "__doc__" 166) .none) (.cons (.mk (HQ.hS w "__package__") (.str "__package__" 167) .none) (.cons (.mk (HQ.hS w "__loader__") (.str "__loader__" 168) (.builtin "__main__.__loader__#opaque")) (.cons (.mk (HQ.hS w "__spec__") (.str "__spec__" 169) .none) (.cons (.mk (HQ.hS w "__annotations__") (.str "__annotations__" 170) (.ref 6)) (.cons (.mk (HQ.hS w "__builtins__") (.str "__builtins__" 171) (.ref 4)) (.cons (.mk (HQ.hS w "__file__") (.str "__file__" 173) (.str "/claim/cut.py" 172)) (.cons (.mk (HQ.hS w "__cached__") (.str "__cached__" 174) .none) (.cons (.mk (HQ.hS w "_wall") (.str "_wall" 193) (.ref 21)) (.cons (.mk (HQ.hS w "WrongValue") (.str "WrongValue" 213) (.ref 31)) (.cons (.mk (HQ.hS w "InvalidStops") (.str "InvalidStops" 238) (.ref 51)) (.cons (.mk (HQ.hS w "InvalidHaul") (.str "InvalidHaul" 263) (.ref 70)) (.cons (.mk (HQ.hS w "InvalidRules") (.str "InvalidRules" 288) (.ref 89)) (.cons (.mk (HQ.hS w "InvalidText") (.str "InvalidText" 313) (.ref 108)) (.cons (.mk (HQ.hS w "InvalidRanges") (.str "InvalidRanges" 338) (.ref 127)) (.cons (.mk (HQ.hS w "WrongRow") (.str "WrongRow" 363) (.ref 146)) (.cons (.mk (HQ.hS w "MOST_STOPS") (.str "MOST_STOPS" 365) (.int (Int.ofNat 10) 364)) (.cons (.mk (HQ.hS w "MOST_PRICE") (.str "MOST_PRICE" 369) (.int (Int.ofNat 1000000000000) 368)) (.cons (.mk (HQ.hS w "RULES") (.str "RULES" 375) (.ref 149)) (.cons (.mk (HQ.hS w "is_integer") (.str "is_integer" 382) (.ref 156)) (.cons (.mk (HQ.hS w "is_within") (.str "is_within" 391) (.ref 163)) (.cons (.mk (HQ.hS w "is_price") (.str "is_price" 398) (.ref 170)) (.cons (.mk (HQ.hS w "is_haul") (.str "is_haul" 404) (.ref 175)) (.cons (.mk (HQ.hS w "is_rules") (.str "is_rules" 411) (.ref 182)) (.cons (.mk (HQ.hS w "lies_within") (.str "lies_within" 419) (.ref 189)) (.cons (.mk (HQ.hS w "hauls_of") (.str "hauls_of" 425) (.ref 194)) (.cons (.mk (HQ.hS w "triples_of") (.str "triples_of" 431) (.ref 199)) (.cons (.mk (HQ.hS w "costs_in") (.str "costs_in" 437) (.ref 204)) (.cons (.mk (HQ.hS w "check_stops") (.str "check_stops" 444) (.ref 211)) (.cons (.mk (HQ.hS w "check_haul") (.str "check_haul" 452) (.ref 218)) (.cons (.mk (HQ.hS w "check_rules") (.str "check_rules" 459) (.ref 225)) (.cons (.mk (HQ.hS w "DIGITS") (.str "DIGITS" 463) (.str "0123456789" 462)) (.cons (.mk (HQ.hS w "is_range") (.str "is_range" 471) (.ref 232)) (.cons (.mk (HQ.hS w "number_in") (.str "number_in" 477) (.ref 237)) (.cons (.mk (HQ.hS w "stops_in") (.str "stops_in" 486) (.ref 244)) (.cons (.mk (HQ.hS w "range_in") (.str "range_in" 492) (.ref 249)) (.cons (.mk (HQ.hS w "Bounds") (.str "Bounds" 635) (.ref 342)) (.cons (.mk (HQ.hS w "break_of") (.str "break_of" 651) (.ref 353)) (.cons (.mk (HQ.hS w "SIZES") (.str "SIZES" 675) (.ref 354)) (.cons (.mk (HQ.hS w "Question") (.str "Question" 708) (.ref 371)) (.cons (.mk (HQ.hS w "bounds_in") (.str "bounds_in" 715) (.ref 382)) (.cons (.mk (HQ.hS w "question_in") (.str "question_in" 723) (.ref 389)) (.cons (.mk (HQ.hS w "are_prices") (.str "are_prices" 729) (.ref 394)) (.cons (.mk (HQ.hS w "is_fitting") (.str "is_fitting" 740) (.ref 401)) (.cons (.mk (HQ.hS w "is_cover") (.str "is_cover" 746) (.ref 406)) (.cons (.mk (HQ.hS w "cost_of") (.str "cost_of" 752) (.ref 411)) (.cons (.mk (HQ.hS w "stretch_cost") (.str "stretch_cost" 762) (.ref 418)) (.cons (.mk (HQ.hS w "is_beside") (.str "is_beside" 771) (.ref 425)) (.cons (.mk (HQ.hS w "shows_least") (.str "shows_least" 783) (.ref 432)) (.cons (.mk (HQ.hS w "fits_shown") (.str "fits_shown" 794) (.ref 439)) (.cons (.mk (HQ.hS w "none_shown") (.str "none_shown" 804) (.ref 446)) (.cons (.mk (HQ.hS w "most_shown") (.str "most_shown" 814) (.ref 453)) (.cons (.mk (HQ.hS w "least_shown") (.str "least_shown" 823) (.ref 460)) (.cons (.mk (HQ.hS w "can_shown") (.str "can_shown" 832) (.ref 467)) (.cons (.mk (HQ.hS w "lowest_shown") (.str "lowest_shown" 838) (.ref 472)) (.cons (.mk (HQ.hS w "no_lowest_shown") (.str "no_lowest_shown" 844) (.ref 477)) (.cons (.mk (HQ.hS w "SHOWN") (.str "SHOWN" 859) (.ref 478)) (.cons (.mk (HQ.hS w "accepts") (.str "accepts" 869) (.ref 485)) (.cons (.mk (HQ.hS w "Ledger") (.str "Ledger" 1010) (.ref 597)) (.cons (.mk (HQ.hS w "_law_well") (.str "_law_well" 1024) (.ref 608)) (.cons (.mk (HQ.hS w "_law_draw") (.str "_law_draw" 1034) (.ref 615)) (.cons (.mk (HQ.hS w "_law_pick") (.str "_law_pick" 1043) (.ref 622)) (.cons (.mk (HQ.hS w "_law_menu") (.str "_law_menu" 1053) (.ref 629)) (.cons (.mk (HQ.hS w "_law_text_like") (.str "_law_text_like" 1061) (.ref 636)) (.cons (.mk (HQ.hS w "_law_wrong") (.str "_law_wrong" 1074) (.ref 643)) (.cons (.mk (HQ.hS w "_law_right") (.str "_law_right" 1087) (.ref 650)) [])))))))))))))))))))))))))))))))))))))))))))))))))))))))))))))))))))) 67) (.mk []))
def o2_12 (w : World) : Obj := (.mk .none none (.fields (.mk (.cons (.int (Int.ofNat 1) 0) (.cons (.int (Int.ofNat 0) 0) (.cons (.ref 20) (.cons (.int (Int.ofNat 5) 0) (.cons (.int (Int.ofNat 0) 0) (.cons (.ref 27) (.cons (.int (Int.ofNat 7) 0) (.cons (.int (Int.ofNat 0) 0) (.cons (.ref 40) (.cons (.int (Int.ofNat 11) 0) (.cons (.int (Int.ofNat 0) 0) (.cons (.ref 59) (.cons (.int (Int.ofNat 15) 0) (.cons (.int (Int.ofNat 0) 0) (.cons (.ref 78) (.cons (.int (Int.ofNat 19) 0) (.cons (.int (Int.ofNat 0) 0) (.cons (.ref 97) (.cons (.int (Int.ofNat 23) 0) (.cons (.int (Int.ofNat 0) 0) (.cons (.ref 116) (.cons (.int (Int.ofNat 27) 0) (.cons (.int (Int.ofNat 0) 0) (.cons (.ref 135) (.cons (.int (Int.ofNat 35) 0) (.cons (.int (Int.ofNat 0) 0) (.cons (.ref 155) (.cons (.int (Int.ofNat 37) 0) (.cons (.int (Int.ofNat 0) 0) (.cons (.ref 162) (.cons (.int (Int.ofNat 39) 0) (.cons (.int (Int.ofNat 0) 0) (.cons (.ref 169) (.cons (.int (Int.ofNat 41) 0) (.cons (.int (Int.ofNat 0) 0) (.cons (.ref 174) (.cons (.int (Int.ofNat 45) 0) (.cons (.int (Int.ofNat 0) 0) (.cons (.ref 181) (.cons (.int (Int.ofNat 47) 0) (.cons (.int (Int.ofNat 0) 0) (.cons (.ref 188) (.cons (.int (Int.ofNat 49) 0) (.cons (.int (Int.ofNat 0) 0) (.cons (.ref 193) (.cons (.int (Int.ofNat 54) 0) (.cons (.int (Int.ofNat 0) 0) (.cons (.ref 198) (.cons (.int (Int.ofNat 59) 0) (.cons (.int (Int.ofNat 0) 0) (.cons (.ref 203) (.cons (.int (Int.ofNat 61) 0) (.cons (.int (Int.ofNat 0) 0) (.cons (.ref 210) (.cons (.int (Int.ofNat 64) 0) (.cons (.int (Int.ofNat 0) 0) (.cons (.ref 217) (.cons (.int (Int.ofNat 67) 0) (.cons (.int (Int.ofNat 0) 0) (.cons (.ref 224) (.cons (.int (Int.ofNat 72) 0) (.cons (.int (Int.ofNat 0) 0) (.cons (.ref 231) (.cons (.int (Int.ofNat 76) 0) (.cons (.int (Int.ofNat 0) 0) (.cons (.ref 236) (.cons (.int (Int.ofNat 80) 0) (.cons (.int (Int.ofNat 0) 0) (.cons (.ref 243) (.cons (.int (Int.ofNat 84) 0) (.cons (.int (Int.ofNat 0) 0) (.cons (.ref 248) (.cons (.int (Int.ofNat 91) 0) (.cons (.int (Int.ofNat 0) 0) (.cons (.ref 255) (.cons (.int (Int.ofNat 154) 0) (.cons (.int (Int.ofNat 0) 0) (.cons (.ref 352) (.cons (.int (Int.ofNat 167) 0) (.cons (.int (Int.ofNat 0) 0) (.cons (.ref 360) (.cons (.int (Int.ofNat 174) 0) (.cons (.int (Int.ofNat 0) 0) (.cons (.ref 381) (.cons (.int (Int.ofNat 179) 0) (.cons (.int (Int.ofNat 0) 0) (.cons (.ref 388) (.cons (.int (Int.ofNat 188) 0) (.cons (.int (Int.ofNat 0) 0) (.cons (.ref 393) (.cons (.int (Int.ofNat 197) 0) (.cons (.int (Int.ofNat 0) 0) (.cons (.ref 400) (.cons (.int (Int.ofNat 205) 0) (.cons (.int (Int.ofNat 0) 0) (.cons (.ref 405) (.cons (.int (Int.ofNat 217) 0) (.cons (.int (Int.ofNat 0) 0) (.cons (.ref 410) (.cons (.int (Int.ofNat 222) 0) (.cons (.int (Int.ofNat 0) 0) (.cons (.ref 417) (.cons (.int (Int.ofNat 226) 0) (.cons (.int (Int.ofNat 0) 0) (.cons (.ref 424) (.cons (.int (Int.ofNat 232) 0) (.cons (.int (Int.ofNat 0) 0) (.cons (.ref 431) (.cons (.int (Int.ofNat 241) 0) (.cons (.int (Int.ofNat 0) 0) (.cons (.ref 438) (.cons (.int (Int.ofNat 243) 0) (.cons (.int (Int.ofNat 0) 0) (.cons (.ref 445) (.cons (.int (Int.ofNat 248) 0) (.cons (.int (Int.ofNat 0) 0) (.cons (.ref 452) (.cons (.int (Int.ofNat 251) 0) (.cons (.int (Int.ofNat 0) 0) (.cons (.ref 459) (.cons (.int (Int.ofNat 253) 0) (.cons (.int (Int.ofNat 0) 0) (.cons (.ref 466) (.cons (.int (Int.ofNat 255) 0) (.cons (.int (Int.ofNat 0) 0) (.cons (.ref 471) (.cons (.int (Int.ofNat 262) 0) (.cons (.int (Int.ofNat 0) 0) (.cons (.ref 476) (.cons (.int (Int.ofNat 273) 0) (.cons (.int (Int.ofNat 0) 0) (.cons (.ref 484) (.cons (.int (Int.ofNat 280) 0) (.cons (.int (Int.ofNat 0) 0) (.cons (.ref 491) (.cons (.int (Int.ofNat 330) 0) (.cons (.int (Int.ofNat 0) 0) (.cons (.ref 607) (.cons (.int (Int.ofNat 337) 0) (.cons (.int (Int.ofNat 0) 0) (.cons (.ref 614) (.cons (.int (Int.ofNat 346) 0) (.cons (.int (Int.ofNat 0) 0) (.cons (.ref 621) (.cons (.int (Int.ofNat 349) 0) (.cons (.int (Int.ofNat 0) 0) (.cons (.ref 628) (.cons (.int (Int.ofNat 359) 0) (.cons (.int (Int.ofNat 0) 0) (.cons (.ref 635) (.cons (.int (Int.ofNat 369) 0) (.cons (.int (Int.ofNat 0) 0) (.cons (.ref 642) (.cons (.int (Int.ofNat 396) 0) (.cons (.int (Int.ofNat 0) 0) (.cons (.ref 649) [])))))))))))))))))))))))))))))))))))))))))))))))))))))))))))))))))))))))))))))))))))))))))))))))))))))))))))))))))))))))))))))))))))))))))))))))))))))))))))))) (.mk []))
def o2_250 (w : World) : Obj := (.mk (.type "tuple") none (.seq (.mk []) 0) (.mk []))
def o2_251 (w : World) : Obj := (.mk (.type "builtin_function_or_method") none (.fields (.mk [(.builtin "type.__prepare__"), (.type "type")])) (.mk []))
def o2_252 (w : World) : Obj := (.mk (.type "dict") none (.dict (.mk [(.mk (HQ.hS w "__module__") (.str "__module__" 500) (.str "haulprices.bounds" 460)), (.mk (HQ.hS w "__qualname__") (.str "__qualname__" 502) (.str "Bounds" 501)), (.mk (HQ.hS w "__firstlineno__") (.str "__firstlineno__" 504) (.int (Int.ofNat 91) 503)), (.mk (HQ.hS w "__init__") (.str "__init__" 515) (.ref 265)), (.mk (HQ.hS w "read") (.str "read" 541) (.ref 274)), (.mk (HQ.hS w "seen") (.str "seen" 562) (.ref 284)), (.mk (HQ.hS w "stops") (.str "stops" 570) (.ref 293)), (.mk (HQ.hS w "ranges") (.str "ranges" 578) (.ref 301)), (.mk (HQ.hS w "__str__") (.str "__str__" 589) (.ref 308)), (.mk (HQ.hS w "__eq__") (.str "__eq__" 597) (.ref 315)), (.mk (HQ.hS w "leasts") (.str "leasts" 603) (.ref 320)), (.mk (HQ.hS w "greatests") (.str "greatests" 609) (.ref 325)), (.mk (HQ.hS w "told") (.str "told" 617) (.ref 332)), (.mk (HQ.hS w "without") (.str "without" 625) (.ref 339)), (.mk (HQ.hS w "__static_attributes__") (.str "__static_attributes__" 627) (.ref 340))]) 15) (.mk []))
def o2_253 (w : World) : Obj := (.mk (.type "tuple") none (.seq (.mk []) 0) (.mk []))
def o2_254 (w : World) : Obj := (.mk .none none (.fields (.mk (.cons (.int (Int.ofNat 93) 0) (.cons (.int (Int.ofNat 4) 0) (.cons (.ref 264) (.cons (.int (Int.ofNat 103) 0) (.cons (.int (Int.ofNat 4) 0) (.cons (.ref 271) (.cons (.int (Int.ofNat 119) 0) (.cons (.int (Int.ofNat 4) 0) (.cons (.ref 281) (.cons (.int (Int.ofNat 123) 0) (.cons (.int (Int.ofNat 4) 0) (.cons (.ref 291) (.cons (.int (Int.ofNat 127) 0) (.cons (.int (Int.ofNat 4) 0) (.cons (.ref 299) (.cons (.int (Int.ofNat 130) 0) (.cons (.int (Int.ofNat 4) 0) (.cons (.ref 307) (.cons (.int (Int.ofNat 136) 0) (.cons (.int (Int.ofNat 4) 0) (.cons (.ref 314) (.cons (.int (Int.ofNat 139) 0) (.cons (.int (Int.ofNat 4) 0) (.cons (.ref 319) (.cons (.int (Int.ofNat 143) 0) (.cons (.int (Int.ofNat 4) 0) (.cons (.ref 324) (.cons (.int (Int.ofNat 147) 0) (.cons (.int (Int.ofNat 4) 0) (.cons (.ref 331) (.cons (.int (Int.ofNat 151) 0) (.cons (.int (Int.ofNat 4) 0) (.cons (.ref 338) []))))))))))))))))))))))))))))))))))) (.mk []))
def o2_255 (w : World) : Obj := (.mk (.type "code") none (.fields (.mk [(.str "Bounds" 495), (.str "Bounds" 496), (.str "/claim/cut.py" 497), (.int (Int.ofNat 91) 0), (.int (Int.ofNat 0) 0), (.int (Int.ofNat 0) 0), (.int (Int.ofNat 0) 0), (.int (Int.ofNat 0) 0), (.ref 253), (.bool false), (.int (Int.ofNat 181) 0), (.ref 254), .none, .none, .none, .none, (.int (Int.ofNat 498) 0), (.int (Int.ofNat 91) 0), (.str "/claim/cut.py" 499)])) (.mk []))
def o2_256 (w : World) : Obj := (.mk (.type "frame") none .plain (.mk [(some (.ref 255)), (some (.ref 3)), (some (.ref 252)), none, (some (.str "haulprices.bounds" 460)), none, (some (.ref 0))]))
def o2_257 (w : World) : Obj := (.mk (.type "tuple") none (.seq (.mk []) 0) (.mk []))
def o2_258 (w : World) : Obj := (.mk (.type "tuple") none (.seq (.mk [(.ref 257)]) 0) (.mk []))
def o2_259 (w : World) : Obj := (.mk (.type "tuple") none (.seq (.mk []) 0) (.mk []))
def o2_260 (w : World) : Obj := (.mk .none none (.fields (.mk [])) (.mk []))
def o2_261 (w : World) : Obj := (.mk (.type "tuple") none (.seq (.mk [(.str "self" 508), (.str "stops" 509), (.str "ranges" 510), (.str "index" 511), (.str "one" 512)]) 0) (.mk []))
def o2_262 (w : World) : Obj := (.mk (.type "tuple") none (.seq (.mk []) 0) (.mk []))
def o2_263 (w : World) : Obj := (.mk .none none (.func (FuncData.mk "__init__" "Bounds.__init__" (L2.defArgs ((MP.clsB (HP.top 31)).getD 0 (.Pass ⟨0, 0, 0, 0⟩))) (FuncBody.stmts (L2.defBody ((MP.clsB (HP.top 31)).getD 0 (.Pass ⟨0, 0, 0, 0⟩)))) (L2.defScope ((MP.clsB (HP.top 31)).getD 0 (.Pass ⟨0, 0, 0, 0⟩))) 0 [] .none .none .none .none none .none .none 0)) (.mk []))
def o2_264 (w : World) : Obj := (.mk (.type "code") none (.fields (.mk [(.str "__init__" 505), (.str "Bounds.__init__" 506), (.str "/claim/cut.py" 507), (.int (Int.ofNat 93) 0), (.int (Int.ofNat 3) 0), (.int (Int.ofNat 0) 0), (.int (Int.ofNat 0) 0), (.int (Int.ofNat 3) 0), (.ref 259), (.bool true), (.int (Int.ofNat 181) 0), (.ref 260), .none, (.ref 261), (.ref 262), (.ref 263), (.int (Int.ofNat 513) 0), (.int (Int.ofNat 93) 0), (.str "/claim/cut.py" 514)])) (.mk []))
def o2_265 (w : World) : Obj := (.mk (.type "function") none (.func (FuncData.mk "__init__" "Bounds.__init__" (L2.defArgs ((MP.clsB (HP.top 31)).getD 0 (.Pass ⟨0, 0, 0, 0⟩))) (FuncBody.stmts (L2.defBody ((MP.clsB (HP.top 31)).getD 0 (.Pass ⟨0, 0, 0, 0⟩)))) (L2.defScope ((MP.clsB (HP.top 31)).getD 0 (.Pass ⟨0, 0, 0, 0⟩))) 3 [] (.ref 258) .none .none (.str "haulprices.bounds" 460) none (.ref 264) .none 0)) (.mk []))
def o2_266 (w : World) : Obj := (.mk (.type "tuple") none (.seq (.mk []) 0) (.mk []))
def o2_267 (w : World) : Obj := (.mk .none none (.fields (.mk [])) (.mk []))
def o2_268 (w : World) : Obj := (.mk (.type "tuple") none (.seq (.mk [(.str "cls" 519), (.str "text" 520), (.str "lines" 521), (.str "stops" 522), (.str "ranges" 523), (.str "index" 524), (.str "line" 525), (.str "found" 526)]) 0) (.mk []))
def o2_269 (w : World) : Obj := (.mk (.type "tuple") none (.seq (.mk []) 0) (.mk []))
def o2_270 (w : World) : Obj := (.mk .none none (.func (FuncData.mk "read" "Bounds.read" (L2.defArgs ((MP.clsB (HP.top 31)).getD 1 (.Pass ⟨0, 0, 0, 0⟩))) (FuncBody.stmts (L2.defBody ((MP.clsB (HP.top 31)).getD 1 (.Pass ⟨0, 0, 0, 0⟩)))) (L2.defScope ((MP.clsB (HP.top 31)).getD 1 (.Pass ⟨0, 0, 0, 0⟩))) 0 [] .none .none .none .none none .none .none 0)) (.mk []))
def o2_271 (w : World) : Obj := (.mk (.type "code") none (.fields (.mk [(.str "read" 516), (.str "Bounds.read" 517), (.str "/claim/cut.py" 518), (.int (Int.ofNat 102) 0), (.int (Int.ofNat 2) 0), (.int (Int.ofNat 0) 0), (.int (Int.ofNat 0) 0), (.int (Int.ofNat 3) 0), (.ref 266), (.bool true), (.int (Int.ofNat 181) 0), (.ref 267), .none, (.ref 268), (.ref 269), (.ref 270), (.int (Int.ofNat 527) 0), (.int (Int.ofNat 102) 0), (.str "/claim/cut.py" 528)])) (.mk []))
def o2_272 (w : World) : Obj := (.mk (.type "function") none (.func (FuncData.mk "read" "Bounds.read" (L2.defArgs ((MP.clsB (HP.top 31)).getD 1 (.Pass ⟨0, 0, 0, 0⟩))) (FuncBody.stmts (L2.defBody ((MP.clsB (HP.top 31)).getD 1 (.Pass ⟨0, 0, 0, 0⟩)))) (L2.defScope ((MP.clsB (HP.top 31)).getD 1 (.Pass ⟨0, 0, 0, 0⟩))) 3 [] .none .none .none (.str "haulprices.bounds" 460) (some 275) (.ref 271) .none 0)) (.mk []))
def o2_273 (w : World) : Obj := (.mk (.type "dict") none (.dict (.mk [(.mk (HQ.hS w "__module__") (.str "__module__" 530) (.str "haulprices.bounds" 460)), (.mk (HQ.hS w "__name__") (.str "__name__" 533) (.str "read" 532)), (.mk (HQ.hS w "__qualname__") (.str "__qualname__" 536) (.str "Bounds.read" 535)), (.mk (HQ.hS w "__doc__") (.str "__doc__" 538) .none), (.mk (HQ.hS w "__annotations__") (.str "__annotations__" 540) (.ref 275))]) 5) (.mk []))
def o2_274 (w : World) : Obj := (.mk (.type "classmethod") (some 273) (.fields (.mk [(.ref 272), (.bool false)])) (.mk []))
def o2_275 (w : World) : Obj := (.mk (.type "dict") none (.dict (.mk []) 0) (.mk []))
def o2_276 (w : World) : Obj := (.mk (.type "tuple") none (.seq (.mk []) 0) (.mk []))
def o2_277 (w : World) : Obj := (.mk .none none (.fields (.mk [])) (.mk []))
def o2_278 (w : World) : Obj := (.mk (.type "tuple") none (.seq (.mk [(.str "cls" 545), (.str "stops" 546), (.str "tickets" 547)]) 0) (.mk []))
def o2_279 (w : World) : Obj := (.mk (.type "tuple") none (.seq (.mk []) 0) (.mk []))
def o2_280 (w : World) : Obj := (.mk .none none (.func (FuncData.mk "seen" "Bounds.seen" (L2.defArgs ((MP.clsB (HP.top 31)).getD 2 (.Pass ⟨0, 0, 0, 0⟩))) (FuncBody.stmts (L2.defBody ((MP.clsB (HP.top 31)).getD 2 (.Pass ⟨0, 0, 0, 0⟩)))) (L2.defScope ((MP.clsB (HP.top 31)).getD 2 (.Pass ⟨0, 0, 0, 0⟩))) 0 [] .none .none .none .none none .none .none 0)) (.mk []))
def o2_281 (w : World) : Obj := (.mk (.type "code") none (.fields (.mk [(.str "seen" 542), (.str "Bounds.seen" 543), (.str "/claim/cut.py" 544), (.int (Int.ofNat 118) 0), (.int (Int.ofNat 3) 0), (.int (Int.ofNat 0) 0), (.int (Int.ofNat 0) 0), (.int (Int.ofNat 3) 0), (.ref 276), (.bool true), (.int (Int.ofNat 181) 0), (.ref 277), .none, (.ref 278), (.ref 279), (.ref 280), (.int (Int.ofNat 548) 0), (.int (Int.ofNat 118) 0), (.str "/claim/cut.py" 549)])) (.mk []))
def o2_282 (w : World) : Obj := (.mk (.type "function") none (.func (FuncData.mk "seen" "Bounds.seen" (L2.defArgs ((MP.clsB (HP.top 31)).getD 2 (.Pass ⟨0, 0, 0, 0⟩))) (FuncBody.stmts (L2.defBody ((MP.clsB (HP.top 31)).getD 2 (.Pass ⟨0, 0, 0, 0⟩)))) (L2.defScope ((MP.clsB (HP.top 31)).getD 2 (.Pass ⟨0, 0, 0, 0⟩))) 3 [] .none .none .none (.str "haulprices.bounds" 460) (some 285) (.ref 281) .none 0)) (.mk []))
def o2_283 (w : World) : Obj := (.mk (.type "dict") none (.dict (.mk [(.mk (HQ.hS w "__module__") (.str "__module__" 551) (.str "haulprices.bounds" 460)), (.mk (HQ.hS w "__name__") (.str "__name__" 554) (.str "seen" 553)), (.mk (HQ.hS w "__qualname__") (.str "__qualname__" 557) (.str "Bounds.seen" 556)), (.mk (HQ.hS w "__doc__") (.str "__doc__" 559) .none), (.mk (HQ.hS w "__annotations__") (.str "__annotations__" 561) (.ref 285))]) 5) (.mk []))
def o2_284 (w : World) : Obj := (.mk (.type "classmethod") (some 283) (.fields (.mk [(.ref 282), (.bool false)])) (.mk []))
def o2_285 (w : World) : Obj := (.mk (.type "dict") none (.dict (.mk []) 0) (.mk []))
def o2_286 (w : World) : Obj := (.mk (.type "tuple") none (.seq (.mk []) 0) (.mk []))
def o2_287 (w : World) : Obj := (.mk .none none (.fields (.mk [])) (.mk []))
def o2_288 (w : World) : Obj := (.mk (.type "tuple") none (.seq (.mk [(.str "self" 566)]) 0) (.mk []))
def o2_289 (w : World) : Obj := (.mk (.type "tuple") none (.seq (.mk []) 0) (.mk []))
def o2_290 (w : World) : Obj := (.mk .none none (.func (FuncData.mk "stops" "Bounds.stops" (L2.defArgs ((MP.clsB (HP.top 31)).getD 3 (.Pass ⟨0, 0, 0, 0⟩))) (FuncBody.stmts (L2.defBody ((MP.clsB (HP.top 31)).getD 3 (.Pass ⟨0, 0, 0, 0⟩)))) (L2.defScope ((MP.clsB (HP.top 31)).getD 3 (.Pass ⟨0, 0, 0, 0⟩))) 0 [] .none .none .none .none none .none .none 0)) (.mk []))
def o2_291 (w : World) : Obj := (.mk (.type "code") none (.fields (.mk [(.str "stops" 563), (.str "Bounds.stops" 564), (.str "/claim/cut.py" 565), (.int (Int.ofNat 122) 0), (.int (Int.ofNat 1) 0), (.int (Int.ofNat 0) 0), (.int (Int.ofNat 0) 0), (.int (Int.ofNat 3) 0), (.ref 286), (.bool true), (.int (Int.ofNat 181) 0), (.ref 287), .none, (.ref 288), (.ref 289), (.ref 290), (.int (Int.ofNat 567) 0), (.int (Int.ofNat 122) 0), (.str "/claim/cut.py" 568)])) (.mk []))
def o2_292 (w : World) : Obj := (.mk (.type "function") none (.func (FuncData.mk "stops" "Bounds.stops" (L2.defArgs ((MP.clsB (HP.top 31)).getD 3 (.Pass ⟨0, 0, 0, 0⟩))) (FuncBody.stmts (L2.defBody ((MP.clsB (HP.top 31)).getD 3 (.Pass ⟨0, 0, 0, 0⟩)))) (L2.defScope ((MP.clsB (HP.top 31)).getD 3 (.Pass ⟨0, 0, 0, 0⟩))) 3 [] .none .none .none (.str "haulprices.bounds" 460) none (.ref 291) .none 0)) (.mk []))
def o2_293 (w : World) : Obj := (.mk (.type "property") none (.fields (.mk [(.ref 292), .none, .none, .none, (.str "stops" 570), (.bool false)])) (.mk []))
def o2_294 (w : World) : Obj := (.mk (.type "tuple") none (.seq (.mk []) 0) (.mk []))
def o2_295 (w : World) : Obj := (.mk .none none (.fields (.mk [])) (.mk []))
def o2_296 (w : World) : Obj := (.mk (.type "tuple") none (.seq (.mk [(.str "self" 574)]) 0) (.mk []))
def o2_297 (w : World) : Obj := (.mk (.type "tuple") none (.seq (.mk []) 0) (.mk []))
def o2_298 (w : World) : Obj := (.mk .none none (.func (FuncData.mk "ranges" "Bounds.ranges" (L2.defArgs ((MP.clsB (HP.top 31)).getD 4 (.Pass ⟨0, 0, 0, 0⟩))) (FuncBody.stmts (L2.defBody ((MP.clsB (HP.top 31)).getD 4 (.Pass ⟨0, 0, 0, 0⟩)))) (L2.defScope ((MP.clsB (HP.top 31)).getD 4 (.Pass ⟨0, 0, 0, 0⟩))) 0 [] .none .none .none .none none .none .none 0)) (.mk []))
def o2_299 (w : World) : Obj := (.mk (.type "code") none (.fields (.mk [(.str "ranges" 571), (.str "Bounds.ranges" 572), (.str "/claim/cut.py" 573), (.int (Int.ofNat 126) 0), (.int (Int.ofNat 1) 0), (.int (Int.ofNat 0) 0), (.int (Int.ofNat 0) 0), (.int (Int.ofNat 3) 0), (.ref 294), (.bool true), (.int (Int.ofNat 181) 0), (.ref 295), .none, (.ref 296), (.ref 297), (.ref 298), (.int (Int.ofNat 575) 0), (.int (Int.ofNat 126) 0), (.str "/claim/cut.py" 576)])) (.mk []))
def o2_300 (w : World) : Obj := (.mk (.type "function") none (.func (FuncData.mk "ranges" "Bounds.ranges" (L2.defArgs ((MP.clsB (HP.top 31)).getD 4 (.Pass ⟨0, 0, 0, 0⟩))) (FuncBody.stmts (L2.defBody ((MP.clsB (HP.top 31)).getD 4 (.Pass ⟨0, 0, 0, 0⟩)))) (L2.defScope ((MP.clsB (HP.top 31)).getD 4 (.Pass ⟨0, 0, 0, 0⟩))) 3 [] .none .none .none (.str "haulprices.bounds" 460) none (.ref 299) .none 0)) (.mk []))
def o2_301 (w : World) : Obj := (.mk (.type "property") none (.fields (.mk [(.ref 300), .none, .none, .none, (.str "ranges" 578), (.bool false)])) (.mk []))
def o2_302 (w : World) : Obj := (.mk (.type "tuple") none (.seq (.mk []) 0) (.mk []))
def o2_303 (w : World) : Obj := (.mk .none none (.fields (.mk [])) (.mk []))
def o2_304 (w : World) : Obj := (.mk (.type "tuple") none (.seq (.mk [(.str "self" 582), (.str "rows" 583), (.str "haul" 584), (.str "least" 585), (.str "greatest" 586)]) 0) (.mk []))
def o2_305 (w : World) : Obj := (.mk (.type "tuple") none (.seq (.mk []) 0) (.mk []))
def o2_306 (w : World) : Obj := (.mk .none none (.func (FuncData.mk "__str__" "Bounds.__str__" (L2.defArgs ((MP.clsB (HP.top 31)).getD 5 (.Pass ⟨0, 0, 0, 0⟩))) (FuncBody.stmts (L2.defBody ((MP.clsB (HP.top 31)).getD 5 (.Pass ⟨0, 0, 0, 0⟩)))) (L2.defScope ((MP.clsB (HP.top 31)).getD 5 (.Pass ⟨0, 0, 0, 0⟩))) 0 [] .none .none .none .none none .none .none 0)) (.mk []))
def o2_307 (w : World) : Obj := (.mk (.type "code") none (.fields (.mk [(.str "__str__" 579), (.str "Bounds.__str__" 580), (.str "/claim/cut.py" 581), (.int (Int.ofNat 130) 0), (.int (Int.ofNat 1) 0), (.int (Int.ofNat 0) 0), (.int (Int.ofNat 0) 0), (.int (Int.ofNat 3) 0), (.ref 302), (.bool true), (.int (Int.ofNat 181) 0), (.ref 303), .none, (.ref 304), (.ref 305), (.ref 306), (.int (Int.ofNat 587) 0), (.int (Int.ofNat 130) 0), (.str "/claim/cut.py" 588)])) (.mk []))
def o2_308 (w : World) : Obj := (.mk (.type "function") none (.func (FuncData.mk "__str__" "Bounds.__str__" (L2.defArgs ((MP.clsB (HP.top 31)).getD 5 (.Pass ⟨0, 0, 0, 0⟩))) (FuncBody.stmts (L2.defBody ((MP.clsB (HP.top 31)).getD 5 (.Pass ⟨0, 0, 0, 0⟩)))) (L2.defScope ((MP.clsB (HP.top 31)).getD 5 (.Pass ⟨0, 0, 0, 0⟩))) 3 [] .none .none .none (.str "haulprices.bounds" 460) none (.ref 307) .none 0)) (.mk []))
def o2_309 (w : World) : Obj := (.mk (.type "tuple") none (.seq (.mk []) 0) (.mk []))
def o2_310 (w : World) : Obj := (.mk .none none (.fields (.mk [])) (.mk []))
def o2_311 (w : World) : Obj := (.mk (.type "tuple") none (.seq (.mk [(.str "self" 593), (.str "other" 594)]) 0) (.mk []))
def o2_312 (w : World) : Obj := (.mk (.type "tuple") none (.seq (.mk []) 0) (.mk []))
def o2_313 (w : World) : Obj := (.mk .none none (.func (FuncData.mk "__eq__" "Bounds.__eq__" (L2.defArgs ((MP.clsB (HP.top 31)).getD 6 (.Pass ⟨0, 0, 0, 0⟩))) (FuncBody.stmts (L2.defBody ((MP.clsB (HP.top 31)).getD 6 (.Pass ⟨0, 0, 0, 0⟩)))) (L2.defScope ((MP.clsB (HP.top 31)).getD 6 (.Pass ⟨0, 0, 0, 0⟩))) 0 [] .none .none .none .none none .none .none 0)) (.mk []))
def o2_314 (w : World) : Obj := (.mk (.type "code") none (.fields (.mk [(.str "__eq__" 590), (.str "Bounds.__eq__" 591), (.str "/claim/cut.py" 592), (.int (Int.ofNat 136) 0), (.int (Int.ofNat 2) 0), (.int (Int.ofNat 0) 0), (.int (Int.ofNat 0) 0), (.int (Int.ofNat 3) 0), (.ref 309), (.bool true), (.int (Int.ofNat 181) 0), (.ref 310), .none, (.ref 311), (.ref 312), (.ref 313), (.int (Int.ofNat 595) 0), (.int (Int.ofNat 136) 0), (.str "/claim/cut.py" 596)])) (.mk []))
def o2_315 (w : World) : Obj := (.mk (.type "function") none (.func (FuncData.mk "__eq__" "Bounds.__eq__" (L2.defArgs ((MP.clsB (HP.top 31)).getD 6 (.Pass ⟨0, 0, 0, 0⟩))) (FuncBody.stmts (L2.defBody ((MP.clsB (HP.top 31)).getD 6 (.Pass ⟨0, 0, 0, 0⟩)))) (L2.defScope ((MP.clsB (HP.top 31)).getD 6 (.Pass ⟨0, 0, 0, 0⟩))) 3 [] .none .none .none (.str "haulprices.bounds" 460) none (.ref 314) .none 0)) (.mk []))
def o2_316 (w : World) : Obj := (.mk (.type "tuple") none (.seq (.mk []) 0) (.mk []))
def o2_317 (w : World) : Obj := (.mk .none none (.fields (.mk [])) (.mk []))
def o2_318 (w : World) : Obj := (.mk .none none (.func (FuncData.mk "leasts" "Bounds.leasts" (L2.defArgs ((MP.clsB (HP.top 31)).getD 7 (.Pass ⟨0, 0, 0, 0⟩))) (FuncBody.stmts (L2.defBody ((MP.clsB (HP.top 31)).getD 7 (.Pass ⟨0, 0, 0, 0⟩)))) (L2.defScope ((MP.clsB (HP.top 31)).getD 7 (.Pass ⟨0, 0, 0, 0⟩))) 0 [] .none .none .none .none none .none .none 0)) (.mk []))
def o2_319 (w : World) : Obj := (.mk (.type "code") none (.fields (.mk [(.str "leasts" 598), (.str "Bounds.leasts" 599), (.str "/claim/cut.py" 600), (.int (Int.ofNat 139) 0), (.int (Int.ofNat 1) 0), (.int (Int.ofNat 0) 0), (.int (Int.ofNat 0) 0), (.int (Int.ofNat 3) 0), (.ref 316), (.bool true), (.int (Int.ofNat 181) 0), (.ref 317), .none, .none, .none, (.ref 318), (.int (Int.ofNat 601) 0), (.int (Int.ofNat 139) 0), (.str "/claim/cut.py" 602)])) (.mk []))
def o2_320 (w : World) : Obj := (.mk (.type "function") none (.func (FuncData.mk "leasts" "Bounds.leasts" (L2.defArgs ((MP.clsB (HP.top 31)).getD 7 (.Pass ⟨0, 0, 0, 0⟩))) (FuncBody.stmts (L2.defBody ((MP.clsB (HP.top 31)).getD 7 (.Pass ⟨0, 0, 0, 0⟩)))) (L2.defScope ((MP.clsB (HP.top 31)).getD 7 (.Pass ⟨0, 0, 0, 0⟩))) 3 [] .none .none .none (.str "haulprices.bounds" 460) none (.ref 319) .none 0)) (.mk []))
def o2_321 (w : World) : Obj := (.mk (.type "tuple") none (.seq (.mk []) 0) (.mk []))
def o2_322 (w : World) : Obj := (.mk .none none (.fields (.mk [])) (.mk []))
def o2_323 (w : World) : Obj := (.mk .none none (.func (FuncData.mk "greatests" "Bounds.greatests" (L2.defArgs ((MP.clsB (HP.top 31)).getD 8 (.Pass ⟨0, 0, 0, 0⟩))) (FuncBody.stmts (L2.defBody ((MP.clsB (HP.top 31)).getD 8 (.Pass ⟨0, 0, 0, 0⟩)))) (L2.defScope ((MP.clsB (HP.top 31)).getD 8 (.Pass ⟨0, 0, 0, 0⟩))) 0 [] .none .none .none .none none .none .none 0)) (.mk []))
def o2_324 (w : World) : Obj := (.mk (.type "code") none (.fields (.mk [(.str "greatests" 604), (.str "Bounds.greatests" 605), (.str "/claim/cut.py" 606), (.int (Int.ofNat 143) 0), (.int (Int.ofNat 1) 0), (.int (Int.ofNat 0) 0), (.int (Int.ofNat 0) 0), (.int (Int.ofNat 3) 0), (.ref 321), (.bool true), (.int (Int.ofNat 181) 0), (.ref 322), .none, .none, .none, (.ref 323), (.int (Int.ofNat 607) 0), (.int (Int.ofNat 143) 0), (.str "/claim/cut.py" 608)])) (.mk []))
def o2_325 (w : World) : Obj := (.mk (.type "function") none (.func (FuncData.mk "greatests" "Bounds.greatests" (L2.defArgs ((MP.clsB (HP.top 31)).getD 8 (.Pass ⟨0, 0, 0, 0⟩))) (FuncBody.stmts (L2.defBody ((MP.clsB (HP.top 31)).getD 8 (.Pass ⟨0, 0, 0, 0⟩)))) (L2.defScope ((MP.clsB (HP.top 31)).getD 8 (.Pass ⟨0, 0, 0, 0⟩))) 3 [] .none .none .none (.str "haulprices.bounds" 460) none (.ref 324) .none 0)) (.mk []))
def o2_326 (w : World) : Obj := (.mk (.type "tuple") none (.seq (.mk []) 0) (.mk []))
def o2_327 (w : World) : Obj := (.mk .none none (.fields (.mk [])) (.mk []))
def o2_328 (w : World) : Obj := (.mk (.type "tuple") none (.seq (.mk [(.str "self" 613), (.str "haul" 614)]) 0) (.mk []))
def o2_329 (w : World) : Obj := (.mk (.type "tuple") none (.seq (.mk []) 0) (.mk []))
def o2_330 (w : World) : Obj := (.mk .none none (.func (FuncData.mk "told" "Bounds.told" (L2.defArgs ((MP.clsB (HP.top 31)).getD 9 (.Pass ⟨0, 0, 0, 0⟩))) (FuncBody.stmts (L2.defBody ((MP.clsB (HP.top 31)).getD 9 (.Pass ⟨0, 0, 0, 0⟩)))) (L2.defScope ((MP.clsB (HP.top 31)).getD 9 (.Pass ⟨0, 0, 0, 0⟩))) 0 [] .none .none .none .none none .none .none 0)) (.mk []))
def o2_331 (w : World) : Obj := (.mk (.type "code") none (.fields (.mk [(.str "told" 610), (.str "Bounds.told" 611), (.str "/claim/cut.py" 612), (.int (Int.ofNat 147) 0), (.int (Int.ofNat 2) 0), (.int (Int.ofNat 0) 0), (.int (Int.ofNat 0) 0), (.int (Int.ofNat 3) 0), (.ref 326), (.bool true), (.int (Int.ofNat 181) 0), (.ref 327), .none, (.ref 328), (.ref 329), (.ref 330), (.int (Int.ofNat 615) 0), (.int (Int.ofNat 147) 0), (.str "/claim/cut.py" 616)])) (.mk []))
def o2_332 (w : World) : Obj := (.mk (.type "function") none (.func (FuncData.mk "told" "Bounds.told" (L2.defArgs ((MP.clsB (HP.top 31)).getD 9 (.Pass ⟨0, 0, 0, 0⟩))) (FuncBody.stmts (L2.defBody ((MP.clsB (HP.top 31)).getD 9 (.Pass ⟨0, 0, 0, 0⟩)))) (L2.defScope ((MP.clsB (HP.top 31)).getD 9 (.Pass ⟨0, 0, 0, 0⟩))) 3 [] .none .none .none (.str "haulprices.bounds" 460) none (.ref 331) .none 0)) (.mk []))
def o2_333 (w : World) : Obj := (.mk (.type "tuple") none (.seq (.mk []) 0) (.mk []))
def o2_334 (w : World) : Obj := (.mk .none none (.fields (.mk [])) (.mk []))
def o2_335 (w : World) : Obj := (.mk (.type "tuple") none (.seq (.mk [(.str "self" 621), (.str "haul" 622)]) 0) (.mk []))
def o2_336 (w : World) : Obj := (.mk (.type "tuple") none (.seq (.mk []) 0) (.mk []))
def o2_337 (w : World) : Obj := (.mk .none none (.func (FuncData.mk "without" "Bounds.without" (L2.defArgs ((MP.clsB (HP.top 31)).getD 10 (.Pass ⟨0, 0, 0, 0⟩))) (FuncBody.stmts (L2.defBody ((MP.clsB (HP.top 31)).getD 10 (.Pass ⟨0, 0, 0, 0⟩)))) (L2.defScope ((MP.clsB (HP.top 31)).getD 10 (.Pass ⟨0, 0, 0, 0⟩))) 0 [] .none .none .none .none none .none .none 0)) (.mk []))
def o2_338 (w : World) : Obj := (.mk (.type "code") none (.fields (.mk [(.str "without" 618), (.str "Bounds.without" 619), (.str "/claim/cut.py" 620), (.int (Int.ofNat 151) 0), (.int (Int.ofNat 2) 0), (.int (Int.ofNat 0) 0), (.int (Int.ofNat 0) 0), (.int (Int.ofNat 3) 0), (.ref 333), (.bool true), (.int (Int.ofNat 181) 0), (.ref 334), .none, (.ref 335), (.ref 336), (.ref 337), (.int (Int.ofNat 623) 0), (.int (Int.ofNat 151) 0), (.str "/claim/cut.py" 624)])) (.mk []))
def o2_339 (w : World) : Obj := (.mk (.type "function") none (.func (FuncData.mk "without" "Bounds.without" (L2.defArgs ((MP.clsB (HP.top 31)).getD 10 (.Pass ⟨0, 0, 0, 0⟩))) (FuncBody.stmts (L2.defBody ((MP.clsB (HP.top 31)).getD 10 (.Pass ⟨0, 0, 0, 0⟩)))) (L2.defScope ((MP.clsB (HP.top 31)).getD 10 (.Pass ⟨0, 0, 0, 0⟩))) 3 [] .none .none .none (.str "haulprices.bounds" 460) none (.ref 338) .none 0)) (.mk []))
def o2_340 (w : World) : Obj := (.mk (.type "tuple") none (.seq (.mk [(.str "all" 626)]) 0) (.mk []))
def o2_341 (w : World) : Obj := (.mk (.type "dict") none (.dict (.mk [(.mk (HQ.hS w "__module__") (.str "__module__" 500) (.str "haulprices.bounds" 460)), (.mk (HQ.hS w "__firstlineno__") (.str "__firstlineno__" 504) (.int (Int.ofNat 91) 503)), (.mk (HQ.hS w "__init__") (.str "__init__" 515) (.ref 265)), (.mk (HQ.hS w "read") (.str "read" 541) (.ref 274)), (.mk (HQ.hS w "seen") (.str "seen" 562) (.ref 284)), (.mk (HQ.hS w "stops") (.str "stops" 570) (.ref 293)), (.mk (HQ.hS w "ranges") (.str "ranges" 578) (.ref 301)), (.mk (HQ.hS w "__str__") (.str "__str__" 589) (.ref 308)), (.mk (HQ.hS w "__eq__") (.str "__eq__" 597) (.ref 315)), (.mk (HQ.hS w "leasts") (.str "leasts" 603) (.ref 320)), (.mk (HQ.hS w "greatests") (.str "greatests" 609) (.ref 325)), (.mk (HQ.hS w "told") (.str "told" 617) (.ref 332)), (.mk (HQ.hS w "without") (.str "without" 625) (.ref 339)), (.mk (HQ.hS w "__static_attributes__") (.str "__static_attributes__" 627) (.ref 340)), (.mk (HQ.hS w "__dict__") (.str "__dict__" 629) (.ref 343)), (.mk (HQ.hS w "__weakref__") (.str "__weakref__" 631) (.ref 344)), (.mk (HQ.hS w "__doc__") (.str "__doc__" 632) .none), (.mk (HQ.hS w "__hash__") (.str "__hash__" 633) .none)]) 5) (.mk []))
def o2_342 (w : World) : Obj := (.mk (.type "type") none (.cls (PySem.ClassData.mk "Bounds" [(.type "object")] [(.ref 342), (.type "object")] 341 "Bounds" true [] [] false none false)) (.mk [none, none, (some (.str "Bounds" 493)), (some (.str "Bounds" 501)), (some (.builtin "object.__new__")), (some (.bool true))]))
def o2_343 (w : World) : Obj := (.mk (.type "getset_descriptor") none (.fields (.mk [(.str "__dict__" 628), (.ref 342), (.builtin "function.__dict__"), (.builtin "function.__dict__#set")])) (.mk []))
def o2_344 (w : World) : Obj := (.mk (.type "getset_descriptor") none (.fields (.mk [(.str "__weakref__" 630), (.ref 342), (.builtin "ExceptionGroup.__weakref__"), .none])) (.mk []))
def o2_345 (w : World) : Obj := (.mk (.type "super") none (.fields (.mk [(.ref 342), (.ref 342), (.ref 342)])) (.mk []))
def o2_346 (w : World) : Obj := (.mk (.type "builtin_function_or_method") none (.fields (.mk [(.builtin "object.__init_subclass__"), (.ref 342)])) (.mk []))
def o2_347 (w : World) : Obj := (.mk (.type "tuple") none (.seq (.mk []) 0) (.mk []))
def o2_348 (w : World) : Obj := (.mk .none none (.fields (.mk [])) (.mk []))
def o2_349 (w : World) : Obj := (.mk (.type "tuple") none (.seq (.mk [(.str "stops" 641), (.str "costs" 642), (.str "rules" 643), (.str "one" 644), (.str "other" 645), (.str "begin" 646), (.str "middle" 647), (.str "end" 648)]) 0) (.mk []))
def o2_350 (w : World) : Obj := (.mk (.type "tuple") none (.seq (.mk []) 0) (.mk []))
def o2_351 (w : World) : Obj := (.mk .none none (.func (FuncData.mk "break_of" "break_of" (L2.defArgs (HP.top 33)) (FuncBody.stmts (L2.defBody (HP.top 33))) (L2.defScope (HP.top 33)) 0 [] .none .none .none .none none .none .none 0)) (.mk []))
def o2_352 (w : World) : Obj := (.mk (.type "code") none (.fields (.mk [(.str "break_of" 638), (.str "break_of" 639), (.str "/claim/cut.py" 640), (.int (Int.ofNat 154) 0), (.int (Int.ofNat 3) 0), (.int (Int.ofNat 0) 0), (.int (Int.ofNat 0) 0), (.int (Int.ofNat 3) 0), (.ref 347), (.bool true), (.int (Int.ofNat 181) 0), (.ref 348), .none, (.ref 349), (.ref 350), (.ref 351), (.int (Int.ofNat 649) 0), (.int (Int.ofNat 154) 0), (.str "/claim/cut.py" 650)])) (.mk []))
def o2_353 (w : World) : Obj := (.mk (.type "function") none (.func (FuncData.mk "break_of" "break_of" (L2.defArgs (HP.top 33)) (FuncBody.stmts (L2.defBody (HP.top 33))) (L2.defScope (HP.top 33)) 3 [] .none .none .none (.str "haulprices.paths" 636) none (.ref 352) .none 0)) (.mk []))
def o2_354 (w : World) : Obj := (.mk (.type "dict") none (.dict (.mk [(.mk (HQ.hS w "fits") (.str "fits" 654) (.int (Int.ofNat 3) 655)), (.mk (HQ.hS w "none") (.str "none" 656) (.int (Int.ofNat 3) 657)), (.mk (HQ.hS w "most") (.str "most" 658) (.int (Int.ofNat 5) 659)), (.mk (HQ.hS w "least") (.str "least" 660) (.int (Int.ofNat 5) 661)), (.mk (HQ.hS w "can") (.str "can" 662) (.int (Int.ofNat 5) 663)), (.mk (HQ.hS w "lowest") (.str "lowest" 664) (.int (Int.ofNat 3) 665)), (.mk (HQ.hS w "no lowest") (.str "no lowest" 666) (.int (Int.ofNat 3) 667))]) 7) (.mk []))
def o2_355 (w : World) : Obj := (.mk (.type "tuple") none (.seq (.mk []) 0) (.mk []))
def o2_356 (w : World) : Obj := (.mk (.type "builtin_function_or_method") none (.fields (.mk [(.builtin "type.__prepare__"), (.type "type")])) (.mk []))
def o2_357 (w : World) : Obj := (.mk (.type "dict") none (.dict (.mk [(.mk (HQ.hS w "__module__") (.str "__module__" 683) (.str "haulprices.checkparts" 652)), (.mk (HQ.hS w "__qualname__") (.str "__qualname__" 685) (.str "Question" 684)), (.mk (HQ.hS w "__firstlineno__") (.str "__firstlineno__" 687) (.int (Int.ofNat 167) 686)), (.mk (HQ.hS w "__init__") (.str "__init__" 696) (.ref 368)), (.mk (HQ.hS w "__static_attributes__") (.str "__static_attributes__" 701) (.ref 369))]) 5) (.mk []))
def o2_358 (w : World) : Obj := (.mk (.type "tuple") none (.seq (.mk []) 0) (.mk []))
def o2_359 (w : World) : Obj := (.mk .none none (.fields (.mk [(.int (Int.ofNat 169) 0), (.int (Int.ofNat 4) 0), (.ref 367)])) (.mk []))
def o2_360 (w : World) : Obj := (.mk (.type "code") none (.fields (.mk [(.str "Question" 678), (.str "Question" 679), (.str "/claim/cut.py" 680), (.int (Int.ofNat 167) 0), (.int (Int.ofNat 0) 0), (.int (Int.ofNat 0) 0), (.int (Int.ofNat 0) 0), (.int (Int.ofNat 0) 0), (.ref 358), (.bool false), (.int (Int.ofNat 181) 0), (.ref 359), .none, .none, .none, .none, (.int (Int.ofNat 681) 0), (.int (Int.ofNat 167) 0), (.str "/claim/cut.py" 682)])) (.mk []))
def o2_361 (w : World) : Obj := (.mk (.type "frame") none .plain (.mk [(some (.ref 360)), (some (.ref 3)), (some (.ref 357)), none, (some (.str "haulprices.checkparts" 652)), none, (some (.ref 0))]))
def o2_362 (w : World) : Obj := (.mk (.type "tuple") none (.seq (.mk []) 0) (.mk []))
def o2_363 (w : World) : Obj := (.mk .none none (.fields (.mk [])) (.mk []))
def o2_364 (w : World) : Obj := (.mk (.type "tuple") none (.seq (.mk [(.str "self" 691), (.str "bounds" 692), (.str "rules" 693)]) 0) (.mk []))
def o2_365 (w : World) : Obj := (.mk (.type "tuple") none (.seq (.mk []) 0) (.mk []))
def o2_366 (w : World) : Obj := (.mk .none none (.func (FuncData.mk "__init__" "Question.__init__" (L2.defArgs ((MP.clsB (HP.top 36)).getD 0 (.Pass ⟨0, 0, 0, 0⟩))) (FuncBody.stmts (L2.defBody ((MP.clsB (HP.top 36)).getD 0 (.Pass ⟨0, 0, 0, 0⟩)))) (L2.defScope ((MP.clsB (HP.top 36)).getD 0 (.Pass ⟨0, 0, 0, 0⟩))) 0 [] .none .none .none .none none .none .none 0)) (.mk []))
def o2_367 (w : World) : Obj := (.mk (.type "code") none (.fields (.mk [(.str "__init__" 688), (.str "Question.__init__" 689), (.str "/claim/cut.py" 690), (.int (Int.ofNat 169) 0), (.int (Int.ofNat 3) 0), (.int (Int.ofNat 0) 0), (.int (Int.ofNat 0) 0), (.int (Int.ofNat 3) 0), (.ref 362), (.bool true), (.int (Int.ofNat 181) 0), (.ref 363), .none, (.ref 364), (.ref 365), (.ref 366), (.int (Int.ofNat 694) 0), (.int (Int.ofNat 169) 0), (.str "/claim/cut.py" 695)])) (.mk []))
def o2_368 (w : World) : Obj := (.mk (.type "function") none (.func (FuncData.mk "__init__" "Question.__init__" (L2.defArgs ((MP.clsB (HP.top 36)).getD 0 (.Pass ⟨0, 0, 0, 0⟩))) (FuncBody.stmts (L2.defBody ((MP.clsB (HP.top 36)).getD 0 (.Pass ⟨0, 0, 0, 0⟩)))) (L2.defScope ((MP.clsB (HP.top 36)).getD 0 (.Pass ⟨0, 0, 0, 0⟩))) 3 [] .none .none .none (.str "haulprices.checkparts" 652) none (.ref 367) .none 0)) (.mk []))
def o2_369 (w : World) : Obj := (.mk (.type "tuple") none (.seq (.mk [(.str "greatest" 697), (.str "kind" 698), (.str "least" 699), (.str "line" 700)]) 0) (.mk []))
def o2_370 (w : World) : Obj := (.mk (.type "dict") none (.dict (.mk [(.mk (HQ.hS w "__module__") (.str "__module__" 683) (.str "haulprices.checkparts" 652)), (.mk (HQ.hS w "__firstlineno__") (.str "__firstlineno__" 687) (.int (Int.ofNat 167) 686)), (.mk (HQ.hS w "__init__") (.str "__init__" 696) (.ref 368)), (.mk (HQ.hS w "__static_attributes__") (.str "__static_attributes__" 701) (.ref 369)), (.mk (HQ.hS w "__dict__") (.str "__dict__" 703) (.ref 372)), (.mk (HQ.hS w "__weakref__") (.str "__weakref__" 705) (.ref 373)), (.mk (HQ.hS w "__doc__") (.str "__doc__" 706) .none)]) 4) (.mk []))
def o2_371 (w : World) : Obj := (.mk (.type "type") none (.cls (PySem.ClassData.mk "Question" [(.type "object")] [(.ref 371), (.type "object")] 370 "Question" true [] [] false none false)) (.mk [none, none, (some (.str "Question" 676)), (some (.str "Question" 684)), (some (.builtin "object.__new__")), (some (.bool true))]))
def o2_372 (w : World) : Obj := (.mk (.type "getset_descriptor") none (.fields (.mk [(.str "__dict__" 702), (.ref 371), (.builtin "function.__dict__"), (.builtin "function.__dict__#set")])) (.mk []))
def o2_373 (w : World) : Obj := (.mk (.type "getset_descriptor") none (.fields (.mk [(.str "__weakref__" 704), (.ref 371), (.builtin "ExceptionGroup.__weakref__"), .none])) (.mk []))
def o2_374 (w : World) : Obj := (.mk (.type "super") none (.fields (.mk [(.ref 371), (.ref 371), (.ref 371)])) (.mk []))
def o2_375 (w : World) : Obj := (.mk (.type "builtin_function_or_method") none (.fields (.mk [(.builtin "object.__init_subclass__"), (.ref 371)])) (.mk []))
def o2_376 (w : World) : Obj := (.mk (.type "tuple") none (.seq (.mk []) 0) (.mk []))
def o2_377 (w : World) : Obj := (.mk .none none (.fields (.mk [])) (.mk []))
def o2_378 (w : World) : Obj := (.mk (.type "tuple") none (.seq (.mk [(.str "text" 712)]) 0) (.mk []))
def o2_379 (w : World) : Obj := (.mk (.type "tuple") none (.seq (.mk []) 0) (.mk []))
def o2_380 (w : World) : Obj := (.mk .none none (.func (FuncData.mk "bounds_in" "bounds_in" (L2.defArgs (HP.top 37)) (FuncBody.stmts (L2.defBody (HP.top 37))) (L2.defScope (HP.top 37)) 0 [] .none .none .none .none none .none .none 0)) (.mk []))
def o2_381 (w : World) : Obj := (.mk (.type "code") none (.fields (.mk [(.str "bounds_in" 709), (.str "bounds_in" 710), (.str "/claim/cut.py" 711), (.int (Int.ofNat 174) 0), (.int (Int.ofNat 1) 0), (.int (Int.ofNat 0) 0), (.int (Int.ofNat 0) 0), (.int (Int.ofNat 3) 0), (.ref 376), (.bool true), (.int (Int.ofNat 181) 0), (.ref 377), .none, (.ref 378), (.ref 379), (.ref 380), (.int (Int.ofNat 713) 0), (.int (Int.ofNat 174) 0), (.str "/claim/cut.py" 714)])) (.mk []))
def o2_382 (w : World) : Obj := (.mk (.type "function") none (.func (FuncData.mk "bounds_in" "bounds_in" (L2.defArgs (HP.top 37)) (FuncBody.stmts (L2.defBody (HP.top 37))) (L2.defScope (HP.top 37)) 3 [] .none .none .none (.str "haulprices.checkparts" 652) none (.ref 381) .none 0)) (.mk []))
def o2_383 (w : World) : Obj := (.mk (.type "tuple") none (.seq (.mk []) 0) (.mk []))
def o2_384 (w : World) : Obj := (.mk .none none (.fields (.mk [])) (.mk []))
def o2_385 (w : World) : Obj := (.mk (.type "tuple") none (.seq (.mk [(.str "claim" 719), (.str "bounds" 720)]) 0) (.mk []))
def o2_386 (w : World) : Obj := (.mk (.type "tuple") none (.seq (.mk []) 0) (.mk []))
def o2_387 (w : World) : Obj := (.mk .none none (.func (FuncData.mk "question_in" "question_in" (L2.defArgs (HP.top 38)) (FuncBody.stmts (L2.defBody (HP.top 38))) (L2.defScope (HP.top 38)) 0 [] .none .none .none .none none .none .none 0)) (.mk []))
def o2_388 (w : World) : Obj := (.mk (.type "code") none (.fields (.mk [(.str "question_in" 716), (.str "question_in" 717), (.str "/claim/cut.py" 718), (.int (Int.ofNat 179) 0), (.int (Int.ofNat 1) 0), (.int (Int.ofNat 0) 0), (.int (Int.ofNat 0) 0), (.int (Int.ofNat 3) 0), (.ref 383), (.bool true), (.int (Int.ofNat 181) 0), (.ref 384), .none, (.ref 385), (.ref 386), (.ref 387), (.int (Int.ofNat 721) 0), (.int (Int.ofNat 179) 0), (.str "/claim/cut.py" 722)])) (.mk []))
def o2_389 (w : World) : Obj := (.mk (.type "function") none (.func (FuncData.mk "question_in" "question_in" (L2.defArgs (HP.top 38)) (FuncBody.stmts (L2.defBody (HP.top 38))) (L2.defScope (HP.top 38)) 3 [] .none .none .none (.str "haulprices.checkparts" 652) none (.ref 388) .none 0)) (.mk []))
def o2_390 (w : World) : Obj := (.mk (.type "tuple") none (.seq (.mk []) 0) (.mk []))
def o2_391 (w : World) : Obj := (.mk .none none (.fields (.mk [])) (.mk []))
def o2_392 (w : World) : Obj := (.mk .none none (.func (FuncData.mk "are_prices" "are_prices" (L2.defArgs (HP.top 39)) (FuncBody.stmts (L2.defBody (HP.top 39))) (L2.defScope (HP.top 39)) 0 [] .none .none .none .none none .none .none 0)) (.mk []))
def o2_393 (w : World) : Obj := (.mk (.type "code") none (.fields (.mk [(.str "are_prices" 724), (.str "are_prices" 725), (.str "/claim/cut.py" 726), (.int (Int.ofNat 188) 0), (.int (Int.ofNat 2) 0), (.int (Int.ofNat 0) 0), (.int (Int.ofNat 0) 0), (.int (Int.ofNat 3) 0), (.ref 390), (.bool true), (.int (Int.ofNat 181) 0), (.ref 391), .none, .none, .none, (.ref 392), (.int (Int.ofNat 727) 0), (.int (Int.ofNat 188) 0), (.str "/claim/cut.py" 728)])) (.mk []))
def o2_394 (w : World) : Obj := (.mk (.type "function") none (.func (FuncData.mk "are_prices" "are_prices" (L2.defArgs (HP.top 39)) (FuncBody.stmts (L2.defBody (HP.top 39))) (L2.defScope (HP.top 39)) 3 [] .none .none .none (.str "haulprices.checkparts" 652) none (.ref 393) .none 0)) (.mk []))
def o2_395 (w : World) : Obj := (.mk (.type "tuple") none (.seq (.mk []) 0) (.mk []))
def o2_396 (w : World) : Obj := (.mk .none none (.fields (.mk [])) (.mk []))
def o2_397 (w : World) : Obj := (.mk (.type "tuple") none (.seq (.mk [(.str "question" 733), (.str "value" 734), (.str "haul" 735), (.str "cost" 736), (.str "high" 737)]) 0) (.mk []))
def o2_398 (w : World) : Obj := (.mk (.type "tuple") none (.seq (.mk []) 0) (.mk []))
def o2_399 (w : World) : Obj := (.mk .none none (.func (FuncData.mk "is_fitting" "is_fitting" (L2.defArgs (HP.top 40)) (FuncBody.stmts (L2.defBody (HP.top 40))) (L2.defScope (HP.top 40)) 0 [] .none .none .none .none none .none .none 0)) (.mk []))
def o2_400 (w : World) : Obj := (.mk (.type "code") none (.fields (.mk [(.str "is_fitting" 730), (.str "is_fitting" 731), (.str "/claim/cut.py" 732), (.int (Int.ofNat 197) 0), (.int (Int.ofNat 2) 0), (.int (Int.ofNat 0) 0), (.int (Int.ofNat 0) 0), (.int (Int.ofNat 3) 0), (.ref 395), (.bool true), (.int (Int.ofNat 181) 0), (.ref 396), .none, (.ref 397), (.ref 398), (.ref 399), (.int (Int.ofNat 738) 0), (.int (Int.ofNat 197) 0), (.str "/claim/cut.py" 739)])) (.mk []))
def o2_401 (w : World) : Obj := (.mk (.type "function") none (.func (FuncData.mk "is_fitting" "is_fitting" (L2.defArgs (HP.top 40)) (FuncBody.stmts (L2.defBody (HP.top 40))) (L2.defScope (HP.top 40)) 3 [] .none .none .none (.str "haulprices.checkparts" 652) none (.ref 400) .none 0)) (.mk []))
def o2_402 (w : World) : Obj := (.mk (.type "tuple") none (.seq (.mk []) 0) (.mk []))
def o2_403 (w : World) : Obj := (.mk .none none (.fields (.mk [])) (.mk []))
def o2_404 (w : World) : Obj := (.mk .none none (.func (FuncData.mk "is_cover" "is_cover" (L2.defArgs (HP.top 41)) (FuncBody.stmts (L2.defBody (HP.top 41))) (L2.defScope (HP.top 41)) 0 [] .none .none .none .none none .none .none 0)) (.mk []))
def o2_405 (w : World) : Obj := (.mk (.type "code") none (.fields (.mk [(.str "is_cover" 741), (.str "is_cover" 742), (.str "/claim/cut.py" 743), (.int (Int.ofNat 205) 0), (.int (Int.ofNat 3) 0), (.int (Int.ofNat 0) 0), (.int (Int.ofNat 0) 0), (.int (Int.ofNat 3) 0), (.ref 402), (.bool true), (.int (Int.ofNat 181) 0), (.ref 403), .none, .none, .none, (.ref 404), (.int (Int.ofNat 744) 0), (.int (Int.ofNat 205) 0), (.str "/claim/cut.py" 745)])) (.mk []))
def o2_406 (w : World) : Obj := (.mk (.type "function") none (.func (FuncData.mk "is_cover" "is_cover" (L2.defArgs (HP.top 41)) (FuncBody.stmts (L2.defBody (HP.top 41))) (L2.defScope (HP.top 41)) 3 [] .none .none .none (.str "haulprices.checkparts" 652) none (.ref 405) .none 0)) (.mk []))
def o2_407 (w : World) : Obj := (.mk (.type "tuple") none (.seq (.mk []) 0) (.mk []))
def o2_408 (w : World) : Obj := (.mk .none none (.fields (.mk [])) (.mk []))
def o2_409 (w : World) : Obj := (.mk .none none (.func (FuncData.mk "cost_of" "cost_of" (L2.defArgs (HP.top 42)) (FuncBody.stmts (L2.defBody (HP.top 42))) (L2.defScope (HP.top 42)) 0 [] .none .none .none .none none .none .none 0)) (.mk []))
def o2_410 (w : World) : Obj := (.mk (.type "code") none (.fields (.mk [(.str "cost_of" 747), (.str "cost_of" 748), (.str "/claim/cut.py" 749), (.int (Int.ofNat 217) 0), (.int (Int.ofNat 3) 0), (.int (Int.ofNat 0) 0), (.int (Int.ofNat 0) 0), (.int (Int.ofNat 3) 0), (.ref 407), (.bool true), (.int (Int.ofNat 181) 0), (.ref 408), .none, .none, .none, (.ref 409), (.int (Int.ofNat 750) 0), (.int (Int.ofNat 217) 0), (.str "/claim/cut.py" 751)])) (.mk []))
def o2_411 (w : World) : Obj := (.mk (.type "function") none (.func (FuncData.mk "cost_of" "cost_of" (L2.defArgs (HP.top 42)) (FuncBody.stmts (L2.defBody (HP.top 42))) (L2.defScope (HP.top 42)) 3 [] .none .none .none (.str "haulprices.checkparts" 652) none (.ref 410) .none 0)) (.mk []))
def o2_412 (w : World) : Obj := (.mk (.type "tuple") none (.seq (.mk []) 0) (.mk []))
def o2_413 (w : World) : Obj := (.mk .none none (.fields (.mk [])) (.mk []))
def o2_414 (w : World) : Obj := (.mk (.type "tuple") none (.seq (.mk [(.str "question" 756), (.str "begin" 757), (.str "end" 758), (.str "value" 759)]) 0) (.mk []))
def o2_415 (w : World) : Obj := (.mk (.type "tuple") none (.seq (.mk []) 0) (.mk []))
def o2_416 (w : World) : Obj := (.mk .none none (.func (FuncData.mk "stretch_cost" "stretch_cost" (L2.defArgs (HP.top 43)) (FuncBody.stmts (L2.defBody (HP.top 43))) (L2.defScope (HP.top 43)) 0 [] .none .none .none .none none .none .none 0)) (.mk []))
def o2_417 (w : World) : Obj := (.mk (.type "code") none (.fields (.mk [(.str "stretch_cost" 753), (.str "stretch_cost" 754), (.str "/claim/cut.py" 755), (.int (Int.ofNat 222) 0), (.int (Int.ofNat 4) 0), (.int (Int.ofNat 0) 0), (.int (Int.ofNat 0) 0), (.int (Int.ofNat 3) 0), (.ref 412), (.bool true), (.int (Int.ofNat 181) 0), (.ref 413), .none, (.ref 414), (.ref 415), (.ref 416), (.int (Int.ofNat 760) 0), (.int (Int.ofNat 222) 0), (.str "/claim/cut.py" 761)])) (.mk []))
def o2_418 (w : World) : Obj := (.mk (.type "function") none (.func (FuncData.mk "stretch_cost" "stretch_cost" (L2.defArgs (HP.top 43)) (FuncBody.stmts (L2.defBody (HP.top 43))) (L2.defScope (HP.top 43)) 3 [] .none .none .none (.str "haulprices.checkparts" 652) none (.ref 417) .none 0)) (.mk []))
def o2_419 (w : World) : Obj := (.mk (.type "tuple") none (.seq (.mk []) 0) (.mk []))
def o2_420 (w : World) : Obj := (.mk .none none (.fields (.mk [])) (.mk []))
def o2_421 (w : World) : Obj := (.mk (.type "tuple") none (.seq (.mk [(.str "question" 766), (.str "haul" 767), (.str "other" 768)]) 0) (.mk []))
def o2_422 (w : World) : Obj := (.mk (.type "tuple") none (.seq (.mk []) 0) (.mk []))
def o2_423 (w : World) : Obj := (.mk .none none (.func (FuncData.mk "is_beside" "is_beside" (L2.defArgs (HP.top 44)) (FuncBody.stmts (L2.defBody (HP.top 44))) (L2.defScope (HP.top 44)) 0 [] .none .none .none .none none .none .none 0)) (.mk []))
def o2_424 (w : World) : Obj := (.mk (.type "code") none (.fields (.mk [(.str "is_beside" 763), (.str "is_beside" 764), (.str "/claim/cut.py" 765), (.int (Int.ofNat 226) 0), (.int (Int.ofNat 3) 0), (.int (Int.ofNat 0) 0), (.int (Int.ofNat 0) 0), (.int (Int.ofNat 3) 0), (.ref 419), (.bool true), (.int (Int.ofNat 181) 0), (.ref 420), .none, (.ref 421), (.ref 422), (.ref 423), (.int (Int.ofNat 769) 0), (.int (Int.ofNat 226) 0), (.str "/claim/cut.py" 770)])) (.mk []))
def o2_425 (w : World) : Obj := (.mk (.type "function") none (.func (FuncData.mk "is_beside" "is_beside" (L2.defArgs (HP.top 44)) (FuncBody.stmts (L2.defBody (HP.top 44))) (L2.defScope (HP.top 44)) 3 [] .none .none .none (.str "haulprices.checkparts" 652) none (.ref 424) .none 0)) (.mk []))
def o2_426 (w : World) : Obj := (.mk (.type "tuple") none (.seq (.mk []) 0) (.mk []))
def o2_427 (w : World) : Obj := (.mk .none none (.fields (.mk [])) (.mk []))
def o2_428 (w : World) : Obj := (.mk (.type "tuple") none (.seq (.mk [(.str "question" 775), (.str "haul" 776), (.str "price" 777), (.str "value" 778), (.str "ahead" 779), (.str "behind" 780)]) 0) (.mk []))
def o2_429 (w : World) : Obj := (.mk (.type "tuple") none (.seq (.mk []) 0) (.mk []))
def o2_430 (w : World) : Obj := (.mk .none none (.func (FuncData.mk "shows_least" "shows_least" (L2.defArgs (HP.top 45)) (FuncBody.stmts (L2.defBody (HP.top 45))) (L2.defScope (HP.top 45)) 0 [] .none .none .none .none none .none .none 0)) (.mk []))
def o2_431 (w : World) : Obj := (.mk (.type "code") none (.fields (.mk [(.str "shows_least" 772), (.str "shows_least" 773), (.str "/claim/cut.py" 774), (.int (Int.ofNat 232) 0), (.int (Int.ofNat 4) 0), (.int (Int.ofNat 0) 0), (.int (Int.ofNat 0) 0), (.int (Int.ofNat 3) 0), (.ref 426), (.bool true), (.int (Int.ofNat 181) 0), (.ref 427), .none, (.ref 428), (.ref 429), (.ref 430), (.int (Int.ofNat 781) 0), (.int (Int.ofNat 232) 0), (.str "/claim/cut.py" 782)])) (.mk []))
def o2_432 (w : World) : Obj := (.mk (.type "function") none (.func (FuncData.mk "shows_least" "shows_least" (L2.defArgs (HP.top 45)) (FuncBody.stmts (L2.defBody (HP.top 45))) (L2.defScope (HP.top 45)) 3 [] .none .none .none (.str "haulprices.checkparts" 652) none (.ref 431) .none 0)) (.mk []))
def o2_433 (w : World) : Obj := (.mk (.type "tuple") none (.seq (.mk []) 0) (.mk []))
def o2_434 (w : World) : Obj := (.mk .none none (.fields (.mk [])) (.mk []))
def o2_435 (w : World) : Obj := (.mk (.type "tuple") none (.seq (.mk [(.str "question" 789), (.str "claim" 790), (.str "value" 791)]) 0) (.mk []))
def o2_436 (w : World) : Obj := (.mk (.type "tuple") none (.seq (.mk []) 0) (.mk []))
def o2_437 (w : World) : Obj := (.mk .none none (.func (FuncData.mk "fits_shown" "fits_shown" (L2.defArgs (HP.top 47)) (FuncBody.stmts (L2.defBody (HP.top 47))) (L2.defScope (HP.top 47)) 0 [] .none .none .none .none none .none .none 0)) (.mk []))
def o2_438 (w : World) : Obj := (.mk (.type "code") none (.fields (.mk [(.str "fits_shown" 786), (.str "fits_shown" 787), (.str "/claim/cut.py" 788), (.int (Int.ofNat 241) 0), (.int (Int.ofNat 3) 0), (.int (Int.ofNat 0) 0), (.int (Int.ofNat 0) 0), (.int (Int.ofNat 3) 0), (.ref 433), (.bool true), (.int (Int.ofNat 181) 0), (.ref 434), .none, (.ref 435), (.ref 436), (.ref 437), (.int (Int.ofNat 792) 0), (.int (Int.ofNat 241) 0), (.str "/claim/cut.py" 793)])) (.mk []))
def o2_439 (w : World) : Obj := (.mk (.type "function") none (.func (FuncData.mk "fits_shown" "fits_shown" (L2.defArgs (HP.top 47)) (FuncBody.stmts (L2.defBody (HP.top 47))) (L2.defScope (HP.top 47)) 3 [] .none .none .none (.str "haulprices.checker" 784) none (.ref 438) .none 0)) (.mk []))
def o2_440 (w : World) : Obj := (.mk (.type "tuple") none (.seq (.mk []) 0) (.mk []))
def o2_441 (w : World) : Obj := (.mk .none none (.fields (.mk [])) (.mk []))
def o2_442 (w : World) : Obj := (.mk (.type "tuple") none (.seq (.mk [(.str "question" 798), (.str "claim" 799), (.str "value" 800), (.str "cost" 801)]) 0) (.mk []))
def o2_443 (w : World) : Obj := (.mk (.type "tuple") none (.seq (.mk []) 0) (.mk []))
def o2_444 (w : World) : Obj := (.mk .none none (.func (FuncData.mk "none_shown" "none_shown" (L2.defArgs (HP.top 48)) (FuncBody.stmts (L2.defBody (HP.top 48))) (L2.defScope (HP.top 48)) 0 [] .none .none .none .none none .none .none 0)) (.mk []))
def o2_445 (w : World) : Obj := (.mk (.type "code") none (.fields (.mk [(.str "none_shown" 795), (.str "none_shown" 796), (.str "/claim/cut.py" 797), (.int (Int.ofNat 243) 0), (.int (Int.ofNat 3) 0), (.int (Int.ofNat 0) 0), (.int (Int.ofNat 0) 0), (.int (Int.ofNat 3) 0), (.ref 440), (.bool true), (.int (Int.ofNat 181) 0), (.ref 441), .none, (.ref 442), (.ref 443), (.ref 444), (.int (Int.ofNat 802) 0), (.int (Int.ofNat 243) 0), (.str "/claim/cut.py" 803)])) (.mk []))
def o2_446 (w : World) : Obj := (.mk (.type "function") none (.func (FuncData.mk "none_shown" "none_shown" (L2.defArgs (HP.top 48)) (FuncBody.stmts (L2.defBody (HP.top 48))) (L2.defScope (HP.top 48)) 3 [] .none .none .none (.str "haulprices.checker" 784) none (.ref 445) .none 0)) (.mk []))
def o2_447 (w : World) : Obj := (.mk (.type "tuple") none (.seq (.mk []) 0) (.mk []))
def o2_448 (w : World) : Obj := (.mk .none none (.fields (.mk [])) (.mk []))
def o2_449 (w : World) : Obj := (.mk (.type "tuple") none (.seq (.mk [(.str "question" 808), (.str "claim" 809), (.str "value" 810), (.str "cost" 811)]) 0) (.mk []))
def o2_450 (w : World) : Obj := (.mk (.type "tuple") none (.seq (.mk []) 0) (.mk []))
def o2_451 (w : World) : Obj := (.mk .none none (.func (FuncData.mk "most_shown" "most_shown" (L2.defArgs (HP.top 49)) (FuncBody.stmts (L2.defBody (HP.top 49))) (L2.defScope (HP.top 49)) 0 [] .none .none .none .none none .none .none 0)) (.mk []))
def o2_452 (w : World) : Obj := (.mk (.type "code") none (.fields (.mk [(.str "most_shown" 805), (.str "most_shown" 806), (.str "/claim/cut.py" 807), (.int (Int.ofNat 248) 0), (.int (Int.ofNat 3) 0), (.int (Int.ofNat 0) 0), (.int (Int.ofNat 0) 0), (.int (Int.ofNat 3) 0), (.ref 447), (.bool true), (.int (Int.ofNat 181) 0), (.ref 448), .none, (.ref 449), (.ref 450), (.ref 451), (.int (Int.ofNat 812) 0), (.int (Int.ofNat 248) 0), (.str "/claim/cut.py" 813)])) (.mk []))
def o2_453 (w : World) : Obj := (.mk (.type "function") none (.func (FuncData.mk "most_shown" "most_shown" (L2.defArgs (HP.top 49)) (FuncBody.stmts (L2.defBody (HP.top 49))) (L2.defScope (HP.top 49)) 3 [] .none .none .none (.str "haulprices.checker" 784) none (.ref 452) .none 0)) (.mk []))
def o2_454 (w : World) : Obj := (.mk (.type "tuple") none (.seq (.mk []) 0) (.mk []))
def o2_455 (w : World) : Obj := (.mk .none none (.fields (.mk [])) (.mk []))
def o2_456 (w : World) : Obj := (.mk (.type "tuple") none (.seq (.mk [(.str "question" 818), (.str "claim" 819), (.str "value" 820)]) 0) (.mk []))
def o2_457 (w : World) : Obj := (.mk (.type "tuple") none (.seq (.mk []) 0) (.mk []))
def o2_458 (w : World) : Obj := (.mk .none none (.func (FuncData.mk "least_shown" "least_shown" (L2.defArgs (HP.top 50)) (FuncBody.stmts (L2.defBody (HP.top 50))) (L2.defScope (HP.top 50)) 0 [] .none .none .none .none none .none .none 0)) (.mk []))
def o2_459 (w : World) : Obj := (.mk (.type "code") none (.fields (.mk [(.str "least_shown" 815), (.str "least_shown" 816), (.str "/claim/cut.py" 817), (.int (Int.ofNat 251) 0), (.int (Int.ofNat 3) 0), (.int (Int.ofNat 0) 0), (.int (Int.ofNat 0) 0), (.int (Int.ofNat 3) 0), (.ref 454), (.bool true), (.int (Int.ofNat 181) 0), (.ref 455), .none, (.ref 456), (.ref 457), (.ref 458), (.int (Int.ofNat 821) 0), (.int (Int.ofNat 251) 0), (.str "/claim/cut.py" 822)])) (.mk []))
def o2_460 (w : World) : Obj := (.mk (.type "function") none (.func (FuncData.mk "least_shown" "least_shown" (L2.defArgs (HP.top 50)) (FuncBody.stmts (L2.defBody (HP.top 50))) (L2.defScope (HP.top 50)) 3 [] .none .none .none (.str "haulprices.checker" 784) none (.ref 459) .none 0)) (.mk []))
def o2_461 (w : World) : Obj := (.mk (.type "tuple") none (.seq (.mk []) 0) (.mk []))
def o2_462 (w : World) : Obj := (.mk .none none (.fields (.mk [])) (.mk []))
def o2_463 (w : World) : Obj := (.mk (.type "tuple") none (.seq (.mk [(.str "question" 827), (.str "claim" 828), (.str "value" 829)]) 0) (.mk []))
def o2_464 (w : World) : Obj := (.mk (.type "tuple") none (.seq (.mk []) 0) (.mk []))
def o2_465 (w : World) : Obj := (.mk .none none (.func (FuncData.mk "can_shown" "can_shown" (L2.defArgs (HP.top 51)) (FuncBody.stmts (L2.defBody (HP.top 51))) (L2.defScope (HP.top 51)) 0 [] .none .none .none .none none .none .none 0)) (.mk []))
def o2_466 (w : World) : Obj := (.mk (.type "code") none (.fields (.mk [(.str "can_shown" 824), (.str "can_shown" 825), (.str "/claim/cut.py" 826), (.int (Int.ofNat 253) 0), (.int (Int.ofNat 3) 0), (.int (Int.ofNat 0) 0), (.int (Int.ofNat 0) 0), (.int (Int.ofNat 3) 0), (.ref 461), (.bool true), (.int (Int.ofNat 181) 0), (.ref 462), .none, (.ref 463), (.ref 464), (.ref 465), (.int (Int.ofNat 830) 0), (.int (Int.ofNat 253) 0), (.str "/claim/cut.py" 831)])) (.mk []))
def o2_467 (w : World) : Obj := (.mk (.type "function") none (.func (FuncData.mk "can_shown" "can_shown" (L2.defArgs (HP.top 51)) (FuncBody.stmts (L2.defBody (HP.top 51))) (L2.defScope (HP.top 51)) 3 [] .none .none .none (.str "haulprices.checker" 784) none (.ref 466) .none 0)) (.mk []))
def o2_468 (w : World) : Obj := (.mk (.type "tuple") none (.seq (.mk []) 0) (.mk []))
def o2_469 (w : World) : Obj := (.mk .none none (.fields (.mk [])) (.mk []))
def o2_470 (w : World) : Obj := (.mk .none none (.func (FuncData.mk "lowest_shown" "lowest_shown" (L2.defArgs (HP.top 52)) (FuncBody.stmts (L2.defBody (HP.top 52))) (L2.defScope (HP.top 52)) 0 [] .none .none .none .none none .none .none 0)) (.mk []))
def o2_471 (w : World) : Obj := (.mk (.type "code") none (.fields (.mk [(.str "lowest_shown" 833), (.str "lowest_shown" 834), (.str "/claim/cut.py" 835), (.int (Int.ofNat 255) 0), (.int (Int.ofNat 3) 0), (.int (Int.ofNat 0) 0), (.int (Int.ofNat 0) 0), (.int (Int.ofNat 3) 0), (.ref 468), (.bool true), (.int (Int.ofNat 181) 0), (.ref 469), .none, .none, .none, (.ref 470), (.int (Int.ofNat 836) 0), (.int (Int.ofNat 255) 0), (.str "/claim/cut.py" 837)])) (.mk []))
def o2_472 (w : World) : Obj := (.mk (.type "function") none (.func (FuncData.mk "lowest_shown" "lowest_shown" (L2.defArgs (HP.top 52)) (FuncBody.stmts (L2.defBody (HP.top 52))) (L2.defScope (HP.top 52)) 3 [] .none .none .none (.str "haulprices.checker" 784) none (.ref 471) .none 0)) (.mk []))
def o2_473 (w : World) : Obj := (.mk (.type "tuple") none (.seq (.mk []) 0) (.mk []))
def o2_474 (w : World) : Obj := (.mk .none none (.fields (.mk [])) (.mk []))
def o2_475 (w : World) : Obj := (.mk .none none (.func (FuncData.mk "no_lowest_shown" "no_lowest_shown" (L2.defArgs (HP.top 53)) (FuncBody.stmts (L2.defBody (HP.top 53))) (L2.defScope (HP.top 53)) 0 [] .none .none .none .none none .none .none 0)) (.mk []))
def o2_476 (w : World) : Obj := (.mk (.type "code") none (.fields (.mk [(.str "no_lowest_shown" 839), (.str "no_lowest_shown" 840), (.str "/claim/cut.py" 841), (.int (Int.ofNat 262) 0), (.int (Int.ofNat 3) 0), (.int (Int.ofNat 0) 0), (.int (Int.ofNat 0) 0), (.int (Int.ofNat 3) 0), (.ref 473), (.bool true), (.int (Int.ofNat 181) 0), (.ref 474), .none, .none, .none, (.ref 475), (.int (Int.ofNat 842) 0), (.int (Int.ofNat 262) 0), (.str "/claim/cut.py" 843)])) (.mk []))
def o2_477 (w : World) : Obj := (.mk (.type "function") none (.func (FuncData.mk "no_lowest_shown" "no_lowest_shown" (L2.defArgs (HP.top 53)) (FuncBody.stmts (L2.defBody (HP.top 53))) (L2.defScope (HP.top 53)) 3 [] .none .none .none (.str "haulprices.checker" 784) none (.ref 476) .none 0)) (.mk []))
def o2_478 (w : World) : Obj := (.mk (.type "dict") none (.dict (.mk [(.mk (HQ.hS w "fits") (.str "fits" 845) (.ref 439)), (.mk (HQ.hS w "none") (.str "none" 846) (.ref 446)), (.mk (HQ.hS w "most") (.str "most" 847) (.ref 453)), (.mk (HQ.hS w "least") (.str "least" 848) (.ref 460)), (.mk (HQ.hS w "can") (.str "can" 849) (.ref 467)), (.mk (HQ.hS w "lowest") (.str "lowest" 850) (.ref 472)), (.mk (HQ.hS w "no lowest") (.str "no lowest" 851) (.ref 477))]) 7) (.mk []))
def o2_479 (w : World) : Obj := (.mk (.type "tuple") none (.seq (.mk []) 0) (.mk []))
def o2_480 (w : World) : Obj := (.mk .none none (.fields (.mk [])) (.mk []))
def o2_481 (w : World) : Obj := (.mk (.type "tuple") none (.seq (.mk [(.str "claim" 863), (.str "certificate" 864), (.str "question" 865), (.str "shown" 866)]) 0) (.mk []))
def o2_482 (w : World) : Obj := (.mk (.type "tuple") none (.seq (.mk []) 0) (.mk []))
def o2_483 (w : World) : Obj := (.mk .none none (.func (FuncData.mk "accepts" "accepts" (L2.defArgs (HP.top 55)) (FuncBody.stmts (L2.defBody (HP.top 55))) (L2.defScope (HP.top 55)) 0 [] .none .none .none .none none .none .none 0)) (.mk []))
def o2_484 (w : World) : Obj := (.mk (.type "code") none (.fields (.mk [(.str "accepts" 860), (.str "accepts" 861), (.str "/claim/cut.py" 862), (.int (Int.ofNat 273) 0), (.int (Int.ofNat 2) 0), (.int (Int.ofNat 0) 0), (.int (Int.ofNat 0) 0), (.int (Int.ofNat 3) 0), (.ref 479), (.bool true), (.int (Int.ofNat 181) 0), (.ref 480), .none, (.ref 481), (.ref 482), (.ref 483), (.int (Int.ofNat 867) 0), (.int (Int.ofNat 273) 0), (.str "/claim/cut.py" 868)])) (.mk []))
def o2_485 (w : World) : Obj := (.mk (.type "function") none (.func (FuncData.mk "accepts" "accepts" (L2.defArgs (HP.top 55)) (FuncBody.stmts (L2.defBody (HP.top 55))) (L2.defScope (HP.top 55)) 3 [] .none .none .none (.str "haulprices.checker" 784) none (.ref 484) .none 0)) (.mk []))
def o2_486 (w : World) : Obj := (.mk (.type "tuple") none (.seq (.mk []) 0) (.mk []))
def o2_487 (w : World) : Obj := (.mk (.type "builtin_function_or_method") none (.fields (.mk [(.builtin "type.__prepare__"), (.type "type")])) (.mk []))
def o2_488 (w : World) : Obj := (.mk (.type "dict") none (.dict (.mk [(.mk (HQ.hS w "__module__") (.str "__module__" 879) (.str "haulprices.ledgers" 870)), (.mk (HQ.hS w "__qualname__") (.str "__qualname__" 881) (.str "Ledger" 880)), (.mk (HQ.hS w "__firstlineno__") (.str "__firstlineno__" 883) (.int (Int.ofNat 280) 882)), (.mk (HQ.hS w "__init__") (.str "__init__" 894) (.ref 500)), (.mk (HQ.hS w "bounds") (.str "bounds" 902) (.ref 508)), (.mk (HQ.hS w "stops") (.str "stops" 910) (.ref 516)), (.mk (HQ.hS w "rules") (.str "rules" 918) (.ref 524)), (.mk (HQ.hS w "__len__") (.str "__len__" 925) (.ref 531)), (.mk (HQ.hS w "__bool__") (.str "__bool__" 932) (.ref 538)), (.mk (HQ.hS w "narrow") (.str "narrow" 943) (.ref 545)), (.mk (HQ.hS w "at_least") (.str "at_least" 952) (.ref 552)), (.mk (HQ.hS w "at_most") (.str "at_most" 961) (.ref 559)), (.mk (HQ.hS w "fix") (.str "fix" 970) (.ref 566)), (.mk (HQ.hS w "price_range") (.str "price_range" 978) (.ref 573)), (.mk (HQ.hS w "undo") (.str "undo" 985) (.ref 580)), (.mk (HQ.hS w "trial") (.str "trial" 992) (.ref 587)), (.mk (HQ.hS w "tried") (.str "tried" 1000) (.ref 594)), (.mk (HQ.hS w "__static_attributes__") (.str "__static_attributes__" 1003) (.ref 595))]) 18) (.mk []))
def o2_489 (w : World) : Obj := (.mk (.type "tuple") none (.seq (.mk []) 0) (.mk []))
def o2_490 (w : World) : Obj := (.mk .none none (.fields (.mk (.cons (.int (Int.ofNat 282) 0) (.cons (.int (Int.ofNat 4) 0) (.cons (.ref 499) (.cons (.int (Int.ofNat 289) 0) (.cons (.int (Int.ofNat 4) 0) (.cons (.ref 506) (.cons (.int (Int.ofNat 293) 0) (.cons (.int (Int.ofNat 4) 0) (.cons (.ref 514) (.cons (.int (Int.ofNat 297) 0) (.cons (.int (Int.ofNat 4) 0) (.cons (.ref 522) (.cons (.int (Int.ofNat 300) 0) (.cons (.int (Int.ofNat 4) 0) (.cons (.ref 530) (.cons (.int (Int.ofNat 303) 0) (.cons (.int (Int.ofNat 4) 0) (.cons (.ref 537) (.cons (.int (Int.ofNat 306) 0) (.cons (.int (Int.ofNat 4) 0) (.cons (.ref 544) (.cons (.int (Int.ofNat 309) 0) (.cons (.int (Int.ofNat 4) 0) (.cons (.ref 551) (.cons (.int (Int.ofNat 312) 0) (.cons (.int (Int.ofNat 4) 0) (.cons (.ref 558) (.cons (.int (Int.ofNat 315) 0) (.cons (.int (Int.ofNat 4) 0) (.cons (.ref 565) (.cons (.int (Int.ofNat 318) 0) (.cons (.int (Int.ofNat 4) 0) (.cons (.ref 572) (.cons (.int (Int.ofNat 321) 0) (.cons (.int (Int.ofNat 4) 0) (.cons (.ref 579) (.cons (.int (Int.ofNat 324) 0) (.cons (.int (Int.ofNat 4) 0) (.cons (.ref 586) (.cons (.int (Int.ofNat 327) 0) (.cons (.int (Int.ofNat 4) 0) (.cons (.ref 593) [])))))))))))))))))))))))))))))))))))))))))))) (.mk []))
def o2_491 (w : World) : Obj := (.mk (.type "code") none (.fields (.mk [(.str "Ledger" 874), (.str "Ledger" 875), (.str "/claim/cut.py" 876), (.int (Int.ofNat 280) 0), (.int (Int.ofNat 0) 0), (.int (Int.ofNat 0) 0), (.int (Int.ofNat 0) 0), (.int (Int.ofNat 0) 0), (.ref 489), (.bool false), (.int (Int.ofNat 181) 0), (.ref 490), .none, .none, .none, .none, (.int (Int.ofNat 877) 0), (.int (Int.ofNat 280) 0), (.str "/claim/cut.py" 878)])) (.mk []))
def o2_492 (w : World) : Obj := (.mk (.type "frame") none .plain (.mk [(some (.ref 491)), (some (.ref 3)), (some (.ref 488)), none, (some (.str "haulprices.ledgers" 870)), none, (some (.ref 0))]))
def o2_493 (w : World) : Obj := (.mk (.type "dict") none (.dict (.mk [(.mk (HQ.hS w "rules") (.str "rules" 885) (.str "both" 884))]) 1) (.mk []))
def o2_494 (w : World) : Obj := (.mk (.type "tuple") none (.seq (.mk []) 0) (.mk []))
def o2_495 (w : World) : Obj := (.mk .none none (.fields (.mk [])) (.mk []))
def o2_496 (w : World) : Obj := (.mk (.type "tuple") none (.seq (.mk [(.str "self" 889), (.str "stops" 890), (.str "rules" 891)]) 0) (.mk []))
def o2_497 (w : World) : Obj := (.mk (.type "tuple") none (.seq (.mk []) 0) (.mk []))
def o2_498 (w : World) : Obj := (.mk .none none (.func (FuncData.mk "__init__" "Ledger.__init__" (L2.defArgs ((MP.clsB (HP.top 57)).getD 0 (.Pass ⟨0, 0, 0, 0⟩))) (FuncBody.stmts (L2.defBody ((MP.clsB (HP.top 57)).getD 0 (.Pass ⟨0, 0, 0, 0⟩)))) (L2.defScope ((MP.clsB (HP.top 57)).getD 0 (.Pass ⟨0, 0, 0, 0⟩))) 0 [] .none .none .none .none none .none .none 0)) (.mk []))
def o2_499 (w : World) : Obj := (.mk (.type "code") none (.fields (.mk [(.str "__init__" 886), (.str "Ledger.__init__" 887), (.str "/claim/cut.py" 888), (.int (Int.ofNat 282) 0), (.int (Int.ofNat 2) 0), (.int (Int.ofNat 0) 0), (.int (Int.ofNat 1) 0), (.int (Int.ofNat 3) 0), (.ref 494), (.bool true), (.int (Int.ofNat 181) 0), (.ref 495), .none, (.ref 496), (.ref 497), (.ref 498), (.int (Int.ofNat 892) 0), (.int (Int.ofNat 282) 0), (.str "/claim/cut.py" 893)])) (.mk []))
def o2_500 (w : World) : Obj := (.mk (.type "function") none (.func (FuncData.mk "__init__" "Ledger.__init__" (L2.defArgs ((MP.clsB (HP.top 57)).getD 0 (.Pass ⟨0, 0, 0, 0⟩))) (FuncBody.stmts (L2.defBody ((MP.clsB (HP.top 57)).getD 0 (.Pass ⟨0, 0, 0, 0⟩)))) (L2.defScope ((MP.clsB (HP.top 57)).getD 0 (.Pass ⟨0, 0, 0, 0⟩))) 3 [] .none (.ref 493) .none (.str "haulprices.ledgers" 870) none (.ref 499) .none 0)) (.mk []))
def o2_501 (w : World) : Obj := (.mk (.type "tuple") none (.seq (.mk []) 0) (.mk []))
def o2_502 (w : World) : Obj := (.mk .none none (.fields (.mk [])) (.mk []))
def o2_503 (w : World) : Obj := (.mk (.type "tuple") none (.seq (.mk [(.str "self" 898)]) 0) (.mk []))
def o2_504 (w : World) : Obj := (.mk (.type "tuple") none (.seq (.mk []) 0) (.mk []))
def o2_505 (w : World) : Obj := (.mk .none none (.func (FuncData.mk "bounds" "Ledger.bounds" (L2.defArgs ((MP.clsB (HP.top 57)).getD 1 (.Pass ⟨0, 0, 0, 0⟩))) (FuncBody.stmts (L2.defBody ((MP.clsB (HP.top 57)).getD 1 (.Pass ⟨0, 0, 0, 0⟩)))) (L2.defScope ((MP.clsB (HP.top 57)).getD 1 (.Pass ⟨0, 0, 0, 0⟩))) 0 [] .none .none .none .none none .none .none 0)) (.mk []))
def o2_506 (w : World) : Obj := (.mk (.type "code") none (.fields (.mk [(.str "bounds" 895), (.str "Ledger.bounds" 896), (.str "/claim/cut.py" 897), (.int (Int.ofNat 288) 0), (.int (Int.ofNat 1) 0), (.int (Int.ofNat 0) 0), (.int (Int.ofNat 0) 0), (.int (Int.ofNat 3) 0), (.ref 501), (.bool true), (.int (Int.ofNat 181) 0), (.ref 502), .none, (.ref 503), (.ref 504), (.ref 505), (.int (Int.ofNat 899) 0), (.int (Int.ofNat 288) 0), (.str "/claim/cut.py" 900)])) (.mk []))
def o2_507 (w : World) : Obj := (.mk (.type "function") none (.func (FuncData.mk "bounds" "Ledger.bounds" (L2.defArgs ((MP.clsB (HP.top 57)).getD 1 (.Pass ⟨0, 0, 0, 0⟩))) (FuncBody.stmts (L2.defBody ((MP.clsB (HP.top 57)).getD 1 (.Pass ⟨0, 0, 0, 0⟩)))) (L2.defScope ((MP.clsB (HP.top 57)).getD 1 (.Pass ⟨0, 0, 0, 0⟩))) 3 [] .none .none .none (.str "haulprices.ledgers" 870) none (.ref 506) .none 0)) (.mk []))
def o2_508 (w : World) : Obj := (.mk (.type "property") none (.fields (.mk [(.ref 507), .none, .none, .none, (.str "bounds" 902), (.bool false)])) (.mk []))
def o2_509 (w : World) : Obj := (.mk (.type "tuple") none (.seq (.mk []) 0) (.mk []))
def o2_510 (w : World) : Obj := (.mk .none none (.fields (.mk [])) (.mk []))
def o2_511 (w : World) : Obj := (.mk (.type "tuple") none (.seq (.mk [(.str "self" 906)]) 0) (.mk []))
def o2_512 (w : World) : Obj := (.mk (.type "tuple") none (.seq (.mk []) 0) (.mk []))
def o2_513 (w : World) : Obj := (.mk .none none (.func (FuncData.mk "stops" "Ledger.stops" (L2.defArgs ((MP.clsB (HP.top 57)).getD 2 (.Pass ⟨0, 0, 0, 0⟩))) (FuncBody.stmts (L2.defBody ((MP.clsB (HP.top 57)).getD 2 (.Pass ⟨0, 0, 0, 0⟩)))) (L2.defScope ((MP.clsB (HP.top 57)).getD 2 (.Pass ⟨0, 0, 0, 0⟩))) 0 [] .none .none .none .none none .none .none 0)) (.mk []))
def o2_514 (w : World) : Obj := (.mk (.type "code") none (.fields (.mk [(.str "stops" 903), (.str "Ledger.stops" 904), (.str "/claim/cut.py" 905), (.int (Int.ofNat 292) 0), (.int (Int.ofNat 1) 0), (.int (Int.ofNat 0) 0), (.int (Int.ofNat 0) 0), (.int (Int.ofNat 3) 0), (.ref 509), (.bool true), (.int (Int.ofNat 181) 0), (.ref 510), .none, (.ref 511), (.ref 512), (.ref 513), (.int (Int.ofNat 907) 0), (.int (Int.ofNat 292) 0), (.str "/claim/cut.py" 908)])) (.mk []))
def o2_515 (w : World) : Obj := (.mk (.type "function") none (.func (FuncData.mk "stops" "Ledger.stops" (L2.defArgs ((MP.clsB (HP.top 57)).getD 2 (.Pass ⟨0, 0, 0, 0⟩))) (FuncBody.stmts (L2.defBody ((MP.clsB (HP.top 57)).getD 2 (.Pass ⟨0, 0, 0, 0⟩)))) (L2.defScope ((MP.clsB (HP.top 57)).getD 2 (.Pass ⟨0, 0, 0, 0⟩))) 3 [] .none .none .none (.str "haulprices.ledgers" 870) none (.ref 514) .none 0)) (.mk []))
def o2_516 (w : World) : Obj := (.mk (.type "property") none (.fields (.mk [(.ref 515), .none, .none, .none, (.str "stops" 910), (.bool false)])) (.mk []))
def o2_517 (w : World) : Obj := (.mk (.type "tuple") none (.seq (.mk []) 0) (.mk []))
def o2_518 (w : World) : Obj := (.mk .none none (.fields (.mk [])) (.mk []))
def o2_519 (w : World) : Obj := (.mk (.type "tuple") none (.seq (.mk [(.str "self" 914)]) 0) (.mk []))
def o2_520 (w : World) : Obj := (.mk (.type "tuple") none (.seq (.mk []) 0) (.mk []))
def o2_521 (w : World) : Obj := (.mk .none none (.func (FuncData.mk "rules" "Ledger.rules" (L2.defArgs ((MP.clsB (HP.top 57)).getD 3 (.Pass ⟨0, 0, 0, 0⟩))) (FuncBody.stmts (L2.defBody ((MP.clsB (HP.top 57)).getD 3 (.Pass ⟨0, 0, 0, 0⟩)))) (L2.defScope ((MP.clsB (HP.top 57)).getD 3 (.Pass ⟨0, 0, 0, 0⟩))) 0 [] .none .none .none .none none .none .none 0)) (.mk []))
def o2_522 (w : World) : Obj := (.mk (.type "code") none (.fields (.mk [(.str "rules" 911), (.str "Ledger.rules" 912), (.str "/claim/cut.py" 913), (.int (Int.ofNat 296) 0), (.int (Int.ofNat 1) 0), (.int (Int.ofNat 0) 0), (.int (Int.ofNat 0) 0), (.int (Int.ofNat 3) 0), (.ref 517), (.bool true), (.int (Int.ofNat 181) 0), (.ref 518), .none, (.ref 519), (.ref 520), (.ref 521), (.int (Int.ofNat 915) 0), (.int (Int.ofNat 296) 0), (.str "/claim/cut.py" 916)])) (.mk []))
def o2_523 (w : World) : Obj := (.mk (.type "function") none (.func (FuncData.mk "rules" "Ledger.rules" (L2.defArgs ((MP.clsB (HP.top 57)).getD 3 (.Pass ⟨0, 0, 0, 0⟩))) (FuncBody.stmts (L2.defBody ((MP.clsB (HP.top 57)).getD 3 (.Pass ⟨0, 0, 0, 0⟩)))) (L2.defScope ((MP.clsB (HP.top 57)).getD 3 (.Pass ⟨0, 0, 0, 0⟩))) 3 [] .none .none .none (.str "haulprices.ledgers" 870) none (.ref 522) .none 0)) (.mk []))
def o2_524 (w : World) : Obj := (.mk (.type "property") none (.fields (.mk [(.ref 523), .none, .none, .none, (.str "rules" 918), (.bool false)])) (.mk []))
def o2_525 (w : World) : Obj := (.mk (.type "tuple") none (.seq (.mk []) 0) (.mk []))
def o2_526 (w : World) : Obj := (.mk .none none (.fields (.mk [])) (.mk []))
def o2_527 (w : World) : Obj := (.mk (.type "tuple") none (.seq (.mk [(.str "self" 922)]) 0) (.mk []))
def o2_528 (w : World) : Obj := (.mk (.type "tuple") none (.seq (.mk []) 0) (.mk []))
def o2_529 (w : World) : Obj := (.mk .none none (.func (FuncData.mk "__len__" "Ledger.__len__" (L2.defArgs ((MP.clsB (HP.top 57)).getD 4 (.Pass ⟨0, 0, 0, 0⟩))) (FuncBody.stmts (L2.defBody ((MP.clsB (HP.top 57)).getD 4 (.Pass ⟨0, 0, 0, 0⟩)))) (L2.defScope ((MP.clsB (HP.top 57)).getD 4 (.Pass ⟨0, 0, 0, 0⟩))) 0 [] .none .none .none .none none .none .none 0)) (.mk []))
def o2_530 (w : World) : Obj := (.mk (.type "code") none (.fields (.mk [(.str "__len__" 919), (.str "Ledger.__len__" 920), (.str "/claim/cut.py" 921), (.int (Int.ofNat 300) 0), (.int (Int.ofNat 1) 0), (.int (Int.ofNat 0) 0), (.int (Int.ofNat 0) 0), (.int (Int.ofNat 3) 0), (.ref 525), (.bool true), (.int (Int.ofNat 181) 0), (.ref 526), .none, (.ref 527), (.ref 528), (.ref 529), (.int (Int.ofNat 923) 0), (.int (Int.ofNat 300) 0), (.str "/claim/cut.py" 924)])) (.mk []))
def o2_531 (w : World) : Obj := (.mk (.type "function") none (.func (FuncData.mk "__len__" "Ledger.__len__" (L2.defArgs ((MP.clsB (HP.top 57)).getD 4 (.Pass ⟨0, 0, 0, 0⟩))) (FuncBody.stmts (L2.defBody ((MP.clsB (HP.top 57)).getD 4 (.Pass ⟨0, 0, 0, 0⟩)))) (L2.defScope ((MP.clsB (HP.top 57)).getD 4 (.Pass ⟨0, 0, 0, 0⟩))) 3 [] .none .none .none (.str "haulprices.ledgers" 870) none (.ref 530) .none 0)) (.mk []))
def o2_532 (w : World) : Obj := (.mk (.type "tuple") none (.seq (.mk []) 0) (.mk []))
def o2_533 (w : World) : Obj := (.mk .none none (.fields (.mk [])) (.mk []))
def o2_534 (w : World) : Obj := (.mk (.type "tuple") none (.seq (.mk [(.str "self" 929)]) 0) (.mk []))
def o2_535 (w : World) : Obj := (.mk (.type "tuple") none (.seq (.mk []) 0) (.mk []))
def o2_536 (w : World) : Obj := (.mk .none none (.func (FuncData.mk "__bool__" "Ledger.__bool__" (L2.defArgs ((MP.clsB (HP.top 57)).getD 5 (.Pass ⟨0, 0, 0, 0⟩))) (FuncBody.stmts (L2.defBody ((MP.clsB (HP.top 57)).getD 5 (.Pass ⟨0, 0, 0, 0⟩)))) (L2.defScope ((MP.clsB (HP.top 57)).getD 5 (.Pass ⟨0, 0, 0, 0⟩))) 0 [] .none .none .none .none none .none .none 0)) (.mk []))
def o2_537 (w : World) : Obj := (.mk (.type "code") none (.fields (.mk [(.str "__bool__" 926), (.str "Ledger.__bool__" 927), (.str "/claim/cut.py" 928), (.int (Int.ofNat 303) 0), (.int (Int.ofNat 1) 0), (.int (Int.ofNat 0) 0), (.int (Int.ofNat 0) 0), (.int (Int.ofNat 3) 0), (.ref 532), (.bool true), (.int (Int.ofNat 181) 0), (.ref 533), .none, (.ref 534), (.ref 535), (.ref 536), (.int (Int.ofNat 930) 0), (.int (Int.ofNat 303) 0), (.str "/claim/cut.py" 931)])) (.mk []))
def o2_538 (w : World) : Obj := (.mk (.type "function") none (.func (FuncData.mk "__bool__" "Ledger.__bool__" (L2.defArgs ((MP.clsB (HP.top 57)).getD 5 (.Pass ⟨0, 0, 0, 0⟩))) (FuncBody.stmts (L2.defBody ((MP.clsB (HP.top 57)).getD 5 (.Pass ⟨0, 0, 0, 0⟩)))) (L2.defScope ((MP.clsB (HP.top 57)).getD 5 (.Pass ⟨0, 0, 0, 0⟩))) 3 [] .none .none .none (.str "haulprices.ledgers" 870) none (.ref 537) .none 0)) (.mk []))
def o2_539 (w : World) : Obj := (.mk (.type "tuple") none (.seq (.mk []) 0) (.mk []))
def o2_540 (w : World) : Obj := (.mk .none none (.fields (.mk [])) (.mk []))
def o2_541 (w : World) : Obj := (.mk (.type "tuple") none (.seq (.mk [(.str "self" 936), (.str "haul" 937), (.str "price" 938), (.str "is_least" 939), (.str "is_greatest" 940)]) 0) (.mk []))
def o2_542 (w : World) : Obj := (.mk (.type "tuple") none (.seq (.mk []) 0) (.mk []))
def o2_543 (w : World) : Obj := (.mk .none none (.func (FuncData.mk "narrow" "Ledger.narrow" (L2.defArgs ((MP.clsB (HP.top 57)).getD 6 (.Pass ⟨0, 0, 0, 0⟩))) (FuncBody.stmts (L2.defBody ((MP.clsB (HP.top 57)).getD 6 (.Pass ⟨0, 0, 0, 0⟩)))) (L2.defScope ((MP.clsB (HP.top 57)).getD 6 (.Pass ⟨0, 0, 0, 0⟩))) 0 [] .none .none .none .none none .none .none 0)) (.mk []))
def o2_544 (w : World) : Obj := (.mk (.type "code") none (.fields (.mk [(.str "narrow" 933), (.str "Ledger.narrow" 934), (.str "/claim/cut.py" 935), (.int (Int.ofNat 306) 0), (.int (Int.ofNat 5) 0), (.int (Int.ofNat 0) 0), (.int (Int.ofNat 0) 0), (.int (Int.ofNat 3) 0), (.ref 539), (.bool true), (.int (Int.ofNat 181) 0), (.ref 540), .none, (.ref 541), (.ref 542), (.ref 543), (.int (Int.ofNat 941) 0), (.int (Int.ofNat 306) 0), (.str "/claim/cut.py" 942)])) (.mk []))
def o2_545 (w : World) : Obj := (.mk (.type "function") none (.func (FuncData.mk "narrow" "Ledger.narrow" (L2.defArgs ((MP.clsB (HP.top 57)).getD 6 (.Pass ⟨0, 0, 0, 0⟩))) (FuncBody.stmts (L2.defBody ((MP.clsB (HP.top 57)).getD 6 (.Pass ⟨0, 0, 0, 0⟩)))) (L2.defScope ((MP.clsB (HP.top 57)).getD 6 (.Pass ⟨0, 0, 0, 0⟩))) 3 [] .none .none .none (.str "haulprices.ledgers" 870) none (.ref 544) .none 0)) (.mk []))
def o2_546 (w : World) : Obj := (.mk (.type "tuple") none (.seq (.mk []) 0) (.mk []))
def o2_547 (w : World) : Obj := (.mk .none none (.fields (.mk [])) (.mk []))
def o2_548 (w : World) : Obj := (.mk (.type "tuple") none (.seq (.mk [(.str "self" 947), (.str "haul" 948), (.str "price" 949)]) 0) (.mk []))
def o2_549 (w : World) : Obj := (.mk (.type "tuple") none (.seq (.mk []) 0) (.mk []))
def o2_550 (w : World) : Obj := (.mk .none none (.func (FuncData.mk "at_least" "Ledger.at_least" (L2.defArgs ((MP.clsB (HP.top 57)).getD 7 (.Pass ⟨0, 0, 0, 0⟩))) (FuncBody.stmts (L2.defBody ((MP.clsB (HP.top 57)).getD 7 (.Pass ⟨0, 0, 0, 0⟩)))) (L2.defScope ((MP.clsB (HP.top 57)).getD 7 (.Pass ⟨0, 0, 0, 0⟩))) 0 [] .none .none .none .none none .none .none 0)) (.mk []))
def o2_551 (w : World) : Obj := (.mk (.type "code") none (.fields (.mk [(.str "at_least" 944), (.str "Ledger.at_least" 945), (.str "/claim/cut.py" 946), (.int (Int.ofNat 309) 0), (.int (Int.ofNat 3) 0), (.int (Int.ofNat 0) 0), (.int (Int.ofNat 0) 0), (.int (Int.ofNat 3) 0), (.ref 546), (.bool true), (.int (Int.ofNat 181) 0), (.ref 547), .none, (.ref 548), (.ref 549), (.ref 550), (.int (Int.ofNat 950) 0), (.int (Int.ofNat 309) 0), (.str "/claim/cut.py" 951)])) (.mk []))
def o2_552 (w : World) : Obj := (.mk (.type "function") none (.func (FuncData.mk "at_least" "Ledger.at_least" (L2.defArgs ((MP.clsB (HP.top 57)).getD 7 (.Pass ⟨0, 0, 0, 0⟩))) (FuncBody.stmts (L2.defBody ((MP.clsB (HP.top 57)).getD 7 (.Pass ⟨0, 0, 0, 0⟩)))) (L2.defScope ((MP.clsB (HP.top 57)).getD 7 (.Pass ⟨0, 0, 0, 0⟩))) 3 [] .none .none .none (.str "haulprices.ledgers" 870) none (.ref 551) .none 0)) (.mk []))
def o2_553 (w : World) : Obj := (.mk (.type "tuple") none (.seq (.mk []) 0) (.mk []))
def o2_554 (w : World) : Obj := (.mk .none none (.fields (.mk [])) (.mk []))
def o2_555 (w : World) : Obj := (.mk (.type "tuple") none (.seq (.mk [(.str "self" 956), (.str "haul" 957), (.str "price" 958)]) 0) (.mk []))
def o2_556 (w : World) : Obj := (.mk (.type "tuple") none (.seq (.mk []) 0) (.mk []))
def o2_557 (w : World) : Obj := (.mk .none none (.func (FuncData.mk "at_most" "Ledger.at_most" (L2.defArgs ((MP.clsB (HP.top 57)).getD 8 (.Pass ⟨0, 0, 0, 0⟩))) (FuncBody.stmts (L2.defBody ((MP.clsB (HP.top 57)).getD 8 (.Pass ⟨0, 0, 0, 0⟩)))) (L2.defScope ((MP.clsB (HP.top 57)).getD 8 (.Pass ⟨0, 0, 0, 0⟩))) 0 [] .none .none .none .none none .none .none 0)) (.mk []))
def o2_558 (w : World) : Obj := (.mk (.type "code") none (.fields (.mk [(.str "at_most" 953), (.str "Ledger.at_most" 954), (.str "/claim/cut.py" 955), (.int (Int.ofNat 312) 0), (.int (Int.ofNat 3) 0), (.int (Int.ofNat 0) 0), (.int (Int.ofNat 0) 0), (.int (Int.ofNat 3) 0), (.ref 553), (.bool true), (.int (Int.ofNat 181) 0), (.ref 554), .none, (.ref 555), (.ref 556), (.ref 557), (.int (Int.ofNat 959) 0), (.int (Int.ofNat 312) 0), (.str "/claim/cut.py" 960)])) (.mk []))
def o2_559 (w : World) : Obj := (.mk (.type "function") none (.func (FuncData.mk "at_most" "Ledger.at_most" (L2.defArgs ((MP.clsB (HP.top 57)).getD 8 (.Pass ⟨0, 0, 0, 0⟩))) (FuncBody.stmts (L2.defBody ((MP.clsB (HP.top 57)).getD 8 (.Pass ⟨0, 0, 0, 0⟩)))) (L2.defScope ((MP.clsB (HP.top 57)).getD 8 (.Pass ⟨0, 0, 0, 0⟩))) 3 [] .none .none .none (.str "haulprices.ledgers" 870) none (.ref 558) .none 0)) (.mk []))
def o2_560 (w : World) : Obj := (.mk (.type "tuple") none (.seq (.mk []) 0) (.mk []))
def o2_561 (w : World) : Obj := (.mk .none none (.fields (.mk [])) (.mk []))
def o2_562 (w : World) : Obj := (.mk (.type "tuple") none (.seq (.mk [(.str "self" 965), (.str "haul" 966), (.str "price" 967)]) 0) (.mk []))
def o2_563 (w : World) : Obj := (.mk (.type "tuple") none (.seq (.mk []) 0) (.mk []))
def o2_564 (w : World) : Obj := (.mk .none none (.func (FuncData.mk "fix" "Ledger.fix" (L2.defArgs ((MP.clsB (HP.top 57)).getD 9 (.Pass ⟨0, 0, 0, 0⟩))) (FuncBody.stmts (L2.defBody ((MP.clsB (HP.top 57)).getD 9 (.Pass ⟨0, 0, 0, 0⟩)))) (L2.defScope ((MP.clsB (HP.top 57)).getD 9 (.Pass ⟨0, 0, 0, 0⟩))) 0 [] .none .none .none .none none .none .none 0)) (.mk []))
def o2_565 (w : World) : Obj := (.mk (.type "code") none (.fields (.mk [(.str "fix" 962), (.str "Ledger.fix" 963), (.str "/claim/cut.py" 964), (.int (Int.ofNat 315) 0), (.int (Int.ofNat 3) 0), (.int (Int.ofNat 0) 0), (.int (Int.ofNat 0) 0), (.int (Int.ofNat 3) 0), (.ref 560), (.bool true), (.int (Int.ofNat 181) 0), (.ref 561), .none, (.ref 562), (.ref 563), (.ref 564), (.int (Int.ofNat 968) 0), (.int (Int.ofNat 315) 0), (.str "/claim/cut.py" 969)])) (.mk []))
def o2_566 (w : World) : Obj := (.mk (.type "function") none (.func (FuncData.mk "fix" "Ledger.fix" (L2.defArgs ((MP.clsB (HP.top 57)).getD 9 (.Pass ⟨0, 0, 0, 0⟩))) (FuncBody.stmts (L2.defBody ((MP.clsB (HP.top 57)).getD 9 (.Pass ⟨0, 0, 0, 0⟩)))) (L2.defScope ((MP.clsB (HP.top 57)).getD 9 (.Pass ⟨0, 0, 0, 0⟩))) 3 [] .none .none .none (.str "haulprices.ledgers" 870) none (.ref 565) .none 0)) (.mk []))
def o2_567 (w : World) : Obj := (.mk (.type "tuple") none (.seq (.mk []) 0) (.mk []))
def o2_568 (w : World) : Obj := (.mk .none none (.fields (.mk [])) (.mk []))
def o2_569 (w : World) : Obj := (.mk (.type "tuple") none (.seq (.mk [(.str "self" 974), (.str "haul" 975)]) 0) (.mk []))
def o2_570 (w : World) : Obj := (.mk (.type "tuple") none (.seq (.mk []) 0) (.mk []))
def o2_571 (w : World) : Obj := (.mk .none none (.func (FuncData.mk "price_range" "Ledger.price_range" (L2.defArgs ((MP.clsB (HP.top 57)).getD 10 (.Pass ⟨0, 0, 0, 0⟩))) (FuncBody.stmts (L2.defBody ((MP.clsB (HP.top 57)).getD 10 (.Pass ⟨0, 0, 0, 0⟩)))) (L2.defScope ((MP.clsB (HP.top 57)).getD 10 (.Pass ⟨0, 0, 0, 0⟩))) 0 [] .none .none .none .none none .none .none 0)) (.mk []))
def o2_572 (w : World) : Obj := (.mk (.type "code") none (.fields (.mk [(.str "price_range" 971), (.str "Ledger.price_range" 972), (.str "/claim/cut.py" 973), (.int (Int.ofNat 318) 0), (.int (Int.ofNat 2) 0), (.int (Int.ofNat 0) 0), (.int (Int.ofNat 0) 0), (.int (Int.ofNat 3) 0), (.ref 567), (.bool true), (.int (Int.ofNat 181) 0), (.ref 568), .none, (.ref 569), (.ref 570), (.ref 571), (.int (Int.ofNat 976) 0), (.int (Int.ofNat 318) 0), (.str "/claim/cut.py" 977)])) (.mk []))
def o2_573 (w : World) : Obj := (.mk (.type "function") none (.func (FuncData.mk "price_range" "Ledger.price_range" (L2.defArgs ((MP.clsB (HP.top 57)).getD 10 (.Pass ⟨0, 0, 0, 0⟩))) (FuncBody.stmts (L2.defBody ((MP.clsB (HP.top 57)).getD 10 (.Pass ⟨0, 0, 0, 0⟩)))) (L2.defScope ((MP.clsB (HP.top 57)).getD 10 (.Pass ⟨0, 0, 0, 0⟩))) 3 [] .none .none .none (.str "haulprices.ledgers" 870) none (.ref 572) .none 0)) (.mk []))
def o2_574 (w : World) : Obj := (.mk (.type "tuple") none (.seq (.mk []) 0) (.mk []))
def o2_575 (w : World) : Obj := (.mk .none none (.fields (.mk [])) (.mk []))
def o2_576 (w : World) : Obj := (.mk (.type "tuple") none (.seq (.mk [(.str "self" 982)]) 0) (.mk []))
def o2_577 (w : World) : Obj := (.mk (.type "tuple") none (.seq (.mk []) 0) (.mk []))
def o2_578 (w : World) : Obj := (.mk .none none (.func (FuncData.mk "undo" "Ledger.undo" (L2.defArgs ((MP.clsB (HP.top 57)).getD 11 (.Pass ⟨0, 0, 0, 0⟩))) (FuncBody.stmts (L2.defBody ((MP.clsB (HP.top 57)).getD 11 (.Pass ⟨0, 0, 0, 0⟩)))) (L2.defScope ((MP.clsB (HP.top 57)).getD 11 (.Pass ⟨0, 0, 0, 0⟩))) 0 [] .none .none .none .none none .none .none 0)) (.mk []))
def o2_579 (w : World) : Obj := (.mk (.type "code") none (.fields (.mk [(.str "undo" 979), (.str "Ledger.undo" 980), (.str "/claim/cut.py" 981), (.int (Int.ofNat 321) 0), (.int (Int.ofNat 1) 0), (.int (Int.ofNat 0) 0), (.int (Int.ofNat 0) 0), (.int (Int.ofNat 3) 0), (.ref 574), (.bool true), (.int (Int.ofNat 181) 0), (.ref 575), .none, (.ref 576), (.ref 577), (.ref 578), (.int (Int.ofNat 983) 0), (.int (Int.ofNat 321) 0), (.str "/claim/cut.py" 984)])) (.mk []))
def o2_580 (w : World) : Obj := (.mk (.type "function") none (.func (FuncData.mk "undo" "Ledger.undo" (L2.defArgs ((MP.clsB (HP.top 57)).getD 11 (.Pass ⟨0, 0, 0, 0⟩))) (FuncBody.stmts (L2.defBody ((MP.clsB (HP.top 57)).getD 11 (.Pass ⟨0, 0, 0, 0⟩)))) (L2.defScope ((MP.clsB (HP.top 57)).getD 11 (.Pass ⟨0, 0, 0, 0⟩))) 3 [] .none .none .none (.str "haulprices.ledgers" 870) none (.ref 579) .none 0)) (.mk []))
def o2_581 (w : World) : Obj := (.mk (.type "tuple") none (.seq (.mk []) 0) (.mk []))
def o2_582 (w : World) : Obj := (.mk .none none (.fields (.mk [])) (.mk []))
def o2_583 (w : World) : Obj := (.mk (.type "tuple") none (.seq (.mk [(.str "self" 989)]) 0) (.mk []))
def o2_584 (w : World) : Obj := (.mk (.type "tuple") none (.seq (.mk []) 0) (.mk []))
def o2_585 (w : World) : Obj := (.mk .none none (.func (FuncData.mk "trial" "Ledger.trial" (L2.defArgs ((MP.clsB (HP.top 57)).getD 12 (.Pass ⟨0, 0, 0, 0⟩))) (FuncBody.stmts (L2.defBody ((MP.clsB (HP.top 57)).getD 12 (.Pass ⟨0, 0, 0, 0⟩)))) (L2.defScope ((MP.clsB (HP.top 57)).getD 12 (.Pass ⟨0, 0, 0, 0⟩))) 0 [] .none .none .none .none none .none .none 0)) (.mk []))
def o2_586 (w : World) : Obj := (.mk (.type "code") none (.fields (.mk [(.str "trial" 986), (.str "Ledger.trial" 987), (.str "/claim/cut.py" 988), (.int (Int.ofNat 324) 0), (.int (Int.ofNat 1) 0), (.int (Int.ofNat 0) 0), (.int (Int.ofNat 0) 0), (.int (Int.ofNat 3) 0), (.ref 581), (.bool true), (.int (Int.ofNat 181) 0), (.ref 582), .none, (.ref 583), (.ref 584), (.ref 585), (.int (Int.ofNat 990) 0), (.int (Int.ofNat 324) 0), (.str "/claim/cut.py" 991)])) (.mk []))
def o2_587 (w : World) : Obj := (.mk (.type "function") none (.func (FuncData.mk "trial" "Ledger.trial" (L2.defArgs ((MP.clsB (HP.top 57)).getD 12 (.Pass ⟨0, 0, 0, 0⟩))) (FuncBody.stmts (L2.defBody ((MP.clsB (HP.top 57)).getD 12 (.Pass ⟨0, 0, 0, 0⟩)))) (L2.defScope ((MP.clsB (HP.top 57)).getD 12 (.Pass ⟨0, 0, 0, 0⟩))) 3 [] .none .none .none (.str "haulprices.ledgers" 870) none (.ref 586) .none 0)) (.mk []))
def o2_588 (w : World) : Obj := (.mk (.type "tuple") none (.seq (.mk []) 0) (.mk []))
def o2_589 (w : World) : Obj := (.mk .none none (.fields (.mk [])) (.mk []))
def o2_590 (w : World) : Obj := (.mk (.type "tuple") none (.seq (.mk [(.str "self" 996), (.str "action" 997)]) 0) (.mk []))
def o2_591 (w : World) : Obj := (.mk (.type "tuple") none (.seq (.mk []) 0) (.mk []))
def o2_592 (w : World) : Obj := (.mk .none none (.func (FuncData.mk "tried" "Ledger.tried" (L2.defArgs ((MP.clsB (HP.top 57)).getD 13 (.Pass ⟨0, 0, 0, 0⟩))) (FuncBody.stmts (L2.defBody ((MP.clsB (HP.top 57)).getD 13 (.Pass ⟨0, 0, 0, 0⟩)))) (L2.defScope ((MP.clsB (HP.top 57)).getD 13 (.Pass ⟨0, 0, 0, 0⟩))) 0 [] .none .none .none .none none .none .none 0)) (.mk []))
def o2_593 (w : World) : Obj := (.mk (.type "code") none (.fields (.mk [(.str "tried" 993), (.str "Ledger.tried" 994), (.str "/claim/cut.py" 995), (.int (Int.ofNat 327) 0), (.int (Int.ofNat 2) 0), (.int (Int.ofNat 0) 0), (.int (Int.ofNat 0) 0), (.int (Int.ofNat 3) 0), (.ref 588), (.bool true), (.int (Int.ofNat 181) 0), (.ref 589), .none, (.ref 590), (.ref 591), (.ref 592), (.int (Int.ofNat 998) 0), (.int (Int.ofNat 327) 0), (.str "/claim/cut.py" 999)])) (.mk []))
def o2_594 (w : World) : Obj := (.mk (.type "function") none (.func (FuncData.mk "tried" "Ledger.tried" (L2.defArgs ((MP.clsB (HP.top 57)).getD 13 (.Pass ⟨0, 0, 0, 0⟩))) (FuncBody.stmts (L2.defBody ((MP.clsB (HP.top 57)).getD 13 (.Pass ⟨0, 0, 0, 0⟩)))) (L2.defScope ((MP.clsB (HP.top 57)).getD 13 (.Pass ⟨0, 0, 0, 0⟩))) 3 [] .none .none .none (.str "haulprices.ledgers" 870) none (.ref 593) .none 0)) (.mk []))
def o2_595 (w : World) : Obj := (.mk (.type "tuple") none (.seq (.mk [(.str "state" 1001), (.str "word" 1002)]) 0) (.mk []))
def o2_596 (w : World) : Obj := (.mk (.type "dict") none (.dict (.mk [(.mk (HQ.hS w "__module__") (.str "__module__" 879) (.str "haulprices.ledgers" 870)), (.mk (HQ.hS w "__firstlineno__") (.str "__firstlineno__" 883) (.int (Int.ofNat 280) 882)), (.mk (HQ.hS w "__init__") (.str "__init__" 894) (.ref 500)), (.mk (HQ.hS w "bounds") (.str "bounds" 902) (.ref 508)), (.mk (HQ.hS w "stops") (.str "stops" 910) (.ref 516)), (.mk (HQ.hS w "rules") (.str "rules" 918) (.ref 524)), (.mk (HQ.hS w "__len__") (.str "__len__" 925) (.ref 531)), (.mk (HQ.hS w "__bool__") (.str "__bool__" 932) (.ref 538)), (.mk (HQ.hS w "narrow") (.str "narrow" 943) (.ref 545)), (.mk (HQ.hS w "at_least") (.str "at_least" 952) (.ref 552)), (.mk (HQ.hS w "at_most") (.str "at_most" 961) (.ref 559)), (.mk (HQ.hS w "fix") (.str "fix" 970) (.ref 566)), (.mk (HQ.hS w "price_range") (.str "price_range" 978) (.ref 573)), (.mk (HQ.hS w "undo") (.str "undo" 985) (.ref 580)), (.mk (HQ.hS w "trial") (.str "trial" 992) (.ref 587)), (.mk (HQ.hS w "tried") (.str "tried" 1000) (.ref 594)), (.mk (HQ.hS w "__static_attributes__") (.str "__static_attributes__" 1003) (.ref 595)), (.mk (HQ.hS w "__dict__") (.str "__dict__" 1005) (.ref 598)), (.mk (HQ.hS w "__weakref__") (.str "__weakref__" 1007) (.ref 599)), (.mk (HQ.hS w "__doc__") (.str "__doc__" 1008) .none)]) 4) (.mk []))
def o2_597 (w : World) : Obj := (.mk (.type "type") none (.cls (PySem.ClassData.mk "Ledger" [(.type "object")] [(.ref 597), (.type "object")] 596 "Ledger" true [] [] false none false)) (.mk [none, none, (some (.str "Ledger" 872)), (some (.str "Ledger" 880)), (some (.builtin "object.__new__")), (some (.bool true))]))
def o2_598 (w : World) : Obj := (.mk (.type "getset_descriptor") none (.fields (.mk [(.str "__dict__" 1004), (.ref 597), (.builtin "function.__dict__"), (.builtin "function.__dict__#set")])) (.mk []))
def o2_599 (w : World) : Obj := (.mk (.type "getset_descriptor") none (.fields (.mk [(.str "__weakref__" 1006), (.ref 597), (.builtin "ExceptionGroup.__weakref__"), .none])) (.mk []))
def o2_600 (w : World) : Obj := (.mk (.type "super") none (.fields (.mk [(.ref 597), (.ref 597), (.ref 597)])) (.mk []))
def o2_601 (w : World) : Obj := (.mk (.type "builtin_function_or_method") none (.fields (.mk [(.builtin "object.__init_subclass__"), (.ref 597)])) (.mk []))
def o2_602 (w : World) : Obj := (.mk (.type "tuple") none (.seq (.mk []) 0) (.mk []))
def o2_603 (w : World) : Obj := (.mk .none none (.fields (.mk [])) (.mk []))
def o2_604 (w : World) : Obj := (.mk (.type "tuple") none (.seq (.mk [(.str "_law_script" 1016), (.str "_law_k" 1017), (.str "_law_seed" 1018), (.str "_law_cell" 1019), (.str "_law_own" 1020), (.str "_law_digits" 1021)]) 0) (.mk []))
def o2_605 (w : World) : Obj := (.mk (.type "tuple") none (.seq (.mk []) 0) (.mk []))
def o2_606 (w : World) : Obj := (.mk .none none (.func (FuncData.mk "_law_well" "_law_well" (L2.defArgs (HP.top 59)) (FuncBody.stmts (L2.defBody (HP.top 59))) (L2.defScope (HP.top 59)) 0 [] .none .none .none .none none .none .none 0)) (.mk []))
def o2_607 (w : World) : Obj := (.mk (.type "code") none (.fields (.mk [(.str "_law_well" 1013), (.str "_law_well" 1014), (.str "/claim/cut.py" 1015), (.int (Int.ofNat 330) 0), (.int (Int.ofNat 2) 0), (.int (Int.ofNat 0) 0), (.int (Int.ofNat 0) 0), (.int (Int.ofNat 3) 0), (.ref 602), (.bool true), (.int (Int.ofNat 181) 0), (.ref 603), .none, (.ref 604), (.ref 605), (.ref 606), (.int (Int.ofNat 1022) 0), (.int (Int.ofNat 330) 0), (.str "/claim/cut.py" 1023)])) (.mk []))
def o2_608 (w : World) : Obj := (.mk (.type "function") none (.func (FuncData.mk "_law_well" "_law_well" (L2.defArgs (HP.top 59)) (FuncBody.stmts (L2.defBody (HP.top 59))) (L2.defScope (HP.top 59)) 3 [] .none .none .none (.str "law_haulprices_k65_claims_of_any_kind" 1011) none (.ref 607) .none 0)) (.mk []))
def o2_609 (w : World) : Obj := (.mk (.type "tuple") none (.seq (.mk []) 0) (.mk []))
def o2_610 (w : World) : Obj := (.mk .none none (.fields (.mk [])) (.mk []))
def o2_611 (w : World) : Obj := (.mk (.type "tuple") none (.seq (.mk [(.str "_law_well_here" 1028), (.str "_law_many" 1029), (.str "_law_digit" 1030), (.str "_law_seed" 1031)]) 0) (.mk []))
def o2_612 (w : World) : Obj := (.mk (.type "tuple") none (.seq (.mk []) 0) (.mk []))
def o2_613 (w : World) : Obj := (.mk .none none (.func (FuncData.mk "_law_draw" "_law_draw" (L2.defArgs (HP.top 60)) (FuncBody.stmts (L2.defBody (HP.top 60))) (L2.defScope (HP.top 60)) 0 [] .none .none .none .none none .none .none 0)) (.mk []))
def o2_614 (w : World) : Obj := (.mk (.type "code") none (.fields (.mk [(.str "_law_draw" 1025), (.str "_law_draw" 1026), (.str "/claim/cut.py" 1027), (.int (Int.ofNat 337) 0), (.int (Int.ofNat 2) 0), (.int (Int.ofNat 0) 0), (.int (Int.ofNat 0) 0), (.int (Int.ofNat 3) 0), (.ref 609), (.bool true), (.int (Int.ofNat 181) 0), (.ref 610), .none, (.ref 611), (.ref 612), (.ref 613), (.int (Int.ofNat 1032) 0), (.int (Int.ofNat 337) 0), (.str "/claim/cut.py" 1033)])) (.mk []))
def o2_615 (w : World) : Obj := (.mk (.type "function") none (.func (FuncData.mk "_law_draw" "_law_draw" (L2.defArgs (HP.top 60)) (FuncBody.stmts (L2.defBody (HP.top 60))) (L2.defScope (HP.top 60)) 3 [] .none .none .none (.str "law_haulprices_k65_claims_of_any_kind" 1011) none (.ref 614) .none 0)) (.mk []))
def o2_616 (w : World) : Obj := (.mk (.type "tuple") none (.seq (.mk []) 0) (.mk []))
def o2_617 (w : World) : Obj := (.mk .none none (.fields (.mk [])) (.mk []))
def o2_618 (w : World) : Obj := (.mk (.type "tuple") none (.seq (.mk [(.str "_law_well_here" 1038), (.str "_law_menu_here" 1039), (.str "_law_at" 1040)]) 0) (.mk []))
def o2_619 (w : World) : Obj := (.mk (.type "tuple") none (.seq (.mk []) 0) (.mk []))
def o2_620 (w : World) : Obj := (.mk .none none (.func (FuncData.mk "_law_pick" "_law_pick" (L2.defArgs (HP.top 61)) (FuncBody.stmts (L2.defBody (HP.top 61))) (L2.defScope (HP.top 61)) 0 [] .none .none .none .none none .none .none 0)) (.mk []))
def o2_621 (w : World) : Obj := (.mk (.type "code") none (.fields (.mk [(.str "_law_pick" 1035), (.str "_law_pick" 1036), (.str "/claim/cut.py" 1037), (.int (Int.ofNat 346) 0), (.int (Int.ofNat 2) 0), (.int (Int.ofNat 0) 0), (.int (Int.ofNat 0) 0), (.int (Int.ofNat 3) 0), (.ref 616), (.bool true), (.int (Int.ofNat 181) 0), (.ref 617), .none, (.ref 618), (.ref 619), (.ref 620), (.int (Int.ofNat 1041) 0), (.int (Int.ofNat 346) 0), (.str "/claim/cut.py" 1042)])) (.mk []))
def o2_622 (w : World) : Obj := (.mk (.type "function") none (.func (FuncData.mk "_law_pick" "_law_pick" (L2.defArgs (HP.top 61)) (FuncBody.stmts (L2.defBody (HP.top 61))) (L2.defScope (HP.top 61)) 3 [] .none .none .none (.str "law_haulprices_k65_claims_of_any_kind" 1011) none (.ref 621) .none 0)) (.mk []))
def o2_623 (w : World) : Obj := (.mk (.type "tuple") none (.seq (.mk []) 0) (.mk []))
def o2_624 (w : World) : Obj := (.mk .none none (.fields (.mk [])) (.mk []))
def o2_625 (w : World) : Obj := (.mk (.type "tuple") none (.seq (.mk [(.str "_law_page" 1047), (.str "_law_none" 1048), (.str "_law_some" 1049), (.str "_law_papers" 1050)]) 0) (.mk []))
def o2_626 (w : World) : Obj := (.mk (.type "tuple") none (.seq (.mk []) 0) (.mk []))
def o2_627 (w : World) : Obj := (.mk .none none (.func (FuncData.mk "_law_menu" "_law_menu" (L2.defArgs (HP.top 62)) (FuncBody.stmts (L2.defBody (HP.top 62))) (L2.defScope (HP.top 62)) 0 [] .none .none .none .none none .none .none 0)) (.mk []))
def o2_628 (w : World) : Obj := (.mk (.type "code") none (.fields (.mk [(.str "_law_menu" 1044), (.str "_law_menu" 1045), (.str "/claim/cut.py" 1046), (.int (Int.ofNat 349) 0), (.int (Int.ofNat 0) 0), (.int (Int.ofNat 0) 0), (.int (Int.ofNat 0) 0), (.int (Int.ofNat 3) 0), (.ref 623), (.bool true), (.int (Int.ofNat 181) 0), (.ref 624), .none, (.ref 625), (.ref 626), (.ref 627), (.int (Int.ofNat 1051) 0), (.int (Int.ofNat 349) 0), (.str "/claim/cut.py" 1052)])) (.mk []))
def o2_629 (w : World) : Obj := (.mk (.type "function") none (.func (FuncData.mk "_law_menu" "_law_menu" (L2.defArgs (HP.top 62)) (FuncBody.stmts (L2.defBody (HP.top 62))) (L2.defScope (HP.top 62)) 3 [] .none .none .none (.str "law_haulprices_k65_claims_of_any_kind" 1011) none (.ref 628) .none 0)) (.mk []))
def o2_630 (w : World) : Obj := (.mk (.type "tuple") none (.seq (.mk []) 0) (.mk []))
def o2_631 (w : World) : Obj := (.mk .none none (.fields (.mk [])) (.mk []))
def o2_632 (w : World) : Obj := (.mk (.type "tuple") none (.seq (.mk [(.str "_law_well_here" 1057), (.str "_law_some" 1058)]) 0) (.mk []))
def o2_633 (w : World) : Obj := (.mk (.type "tuple") none (.seq (.mk []) 0) (.mk []))
def o2_634 (w : World) : Obj := (.mk .none none (.func (FuncData.mk "_law_text_like" "_law_text_like" (L2.defArgs (HP.top 63)) (FuncBody.stmts (L2.defBody (HP.top 63))) (L2.defScope (HP.top 63)) 0 [] .none .none .none .none none .none .none 0)) (.mk []))
def o2_635 (w : World) : Obj := (.mk (.type "code") none (.fields (.mk [(.str "_law_text_like" 1054), (.str "_law_text_like" 1055), (.str "/claim/cut.py" 1056), (.int (Int.ofNat 359) 0), (.int (Int.ofNat 1) 0), (.int (Int.ofNat 0) 0), (.int (Int.ofNat 0) 0), (.int (Int.ofNat 3) 0), (.ref 630), (.bool true), (.int (Int.ofNat 181) 0), (.ref 631), .none, (.ref 632), (.ref 633), (.ref 634), (.int (Int.ofNat 1059) 0), (.int (Int.ofNat 359) 0), (.str "/claim/cut.py" 1060)])) (.mk []))
def o2_636 (w : World) : Obj := (.mk (.type "function") none (.func (FuncData.mk "_law_text_like" "_law_text_like" (L2.defArgs (HP.top 63)) (FuncBody.stmts (L2.defBody (HP.top 63))) (L2.defScope (HP.top 63)) 3 [] .none .none .none (.str "law_haulprices_k65_claims_of_any_kind" 1011) none (.ref 635) .none 0)) (.mk []))
def o2_637 (w : World) : Obj := (.mk (.type "tuple") none (.seq (.mk []) 0) (.mk []))
def o2_638 (w : World) : Obj := (.mk .none none (.fields (.mk [])) (.mk []))
def o2_639 (w : World) : Obj := (.mk (.type "tuple") none (.seq (.mk [(.str "_law_well_here" 1065), (.str "_law_mine" 1066), (.str "_law_paper" 1067), (.str "_law_way" 1068), (.str "_law_words" 1069), (.str "_law_rides" 1070), (.str "_law_some" 1071)]) 0) (.mk []))
def o2_640 (w : World) : Obj := (.mk (.type "tuple") none (.seq (.mk []) 0) (.mk []))
def o2_641 (w : World) : Obj := (.mk .none none (.func (FuncData.mk "_law_wrong" "_law_wrong" (L2.defArgs (HP.top 64)) (FuncBody.stmts (L2.defBody (HP.top 64))) (L2.defScope (HP.top 64)) 0 [] .none .none .none .none none .none .none 0)) (.mk []))
def o2_642 (w : World) : Obj := (.mk (.type "code") none (.fields (.mk [(.str "_law_wrong" 1062), (.str "_law_wrong" 1063), (.str "/claim/cut.py" 1064), (.int (Int.ofNat 369) 0), (.int (Int.ofNat 3) 0), (.int (Int.ofNat 0) 0), (.int (Int.ofNat 0) 0), (.int (Int.ofNat 3) 0), (.ref 637), (.bool true), (.int (Int.ofNat 181) 0), (.ref 638), .none, (.ref 639), (.ref 640), (.ref 641), (.int (Int.ofNat 1072) 0), (.int (Int.ofNat 369) 0), (.str "/claim/cut.py" 1073)])) (.mk []))
def o2_643 (w : World) : Obj := (.mk (.type "function") none (.func (FuncData.mk "_law_wrong" "_law_wrong" (L2.defArgs (HP.top 64)) (FuncBody.stmts (L2.defBody (HP.top 64))) (L2.defScope (HP.top 64)) 3 [] .none .none .none (.str "law_haulprices_k65_claims_of_any_kind" 1011) none (.ref 642) .none 0)) (.mk []))
def o2_644 (w : World) : Obj := (.mk (.type "tuple") none (.seq (.mk []) 0) (.mk []))
def o2_645 (w : World) : Obj := (.mk .none none (.fields (.mk [])) (.mk []))
def o2_646 (w : World) : Obj := (.mk (.type "tuple") none (.seq (.mk [(.str "_law_well_here" 1078), (.str "_law_some" 1079), (.str "_law_turn" 1080), (.str "_law_mine" 1081), (.str "_law_paper" 1082), (.str "_law_wrong_here" 1083), (.str "_law_odd" 1084)]) 0) (.mk []))
def o2_647 (w : World) : Obj := (.mk (.type "tuple") none (.seq (.mk []) 0) (.mk []))
def o2_648 (w : World) : Obj := (.mk .none none (.func (FuncData.mk "_law_right" "_law_right" (L2.defArgs (HP.top 65)) (FuncBody.stmts (L2.defBody (HP.top 65))) (L2.defScope (HP.top 65)) 0 [] .none .none .none .none none .none .none 0)) (.mk []))
def o2_649 (w : World) : Obj := (.mk (.type "code") none (.fields (.mk [(.str "_law_right" 1075), (.str "_law_right" 1076), (.str "/claim/cut.py" 1077), (.int (Int.ofNat 396) 0), (.int (Int.ofNat 1) 0), (.int (Int.ofNat 0) 0), (.int (Int.ofNat 0) 0), (.int (Int.ofNat 3) 0), (.ref 644), (.bool true), (.int (Int.ofNat 181) 0), (.ref 645), .none, (.ref 646), (.ref 647), (.ref 648), (.int (Int.ofNat 1085) 0), (.int (Int.ofNat 396) 0), (.str "/claim/cut.py" 1086)])) (.mk []))
def o2_650 (w : World) : Obj := (.mk (.type "function") none (.func (FuncData.mk "_law_right" "_law_right" (L2.defArgs (HP.top 65)) (FuncBody.stmts (L2.defBody (HP.top 65))) (L2.defScope (HP.top 65)) 3 [] .none .none .none (.str "law_haulprices_k65_claims_of_any_kind" 1011) none (.ref 649) .none 0)) (.mk []))
def l2_0 (w : World) : List Obj := [o1_0 w, o1_1 w, o1_2 w, o2_3 w, o1_4 w, o1_5 w, o1_6 w, o1_7 w, o1_8 w, o1_9 w, o1_10 w, o1_11 w, o2_12 w, o1_13 w, o1_14 w, o1_15 w, o1_16 w, o1_17 w, o1_18 w, o1_19 w, o1_20 w, o1_21 w, o1_22 w, o1_23 w, o1_24 w]
def l2_1 (w : World) : List Obj := [o1_25 w, o1_26 w, o1_27 w, o1_28 w, o1_29 w, o1_30 w, o1_31 w, o1_32 w, o1_33 w, o1_34 w, o1_35 w, o1_36 w, o1_37 w, o1_38 w, o1_39 w, o1_40 w, o1_41 w, o1_42 w, o1_43 w, o1_44 w, o1_45 w, o1_46 w, o1_47 w, o1_48 w, o1_49 w]
def l2_2 (w : World) : List Obj := [o1_50 w, o1_51 w, o1_52 w, o1_53 w, o1_54 w, o1_55 w, o1_56 w, o1_57 w, o1_58 w, o1_59 w, o1_60 w, o1_61 w, o1_62 w, o1_63 w, o1_64 w, o1_65 w, o1_66 w, o1_67 w, o1_68 w, o1_69 w, o1_70 w, o1_71 w, o1_72 w, o1_73 w, o1_74 w]
def l2_3 (w : World) : List Obj := [o1_75 w, o1_76 w, o1_77 w, o1_78 w, o1_79 w, o1_80 w, o1_81 w, o1_82 w, o1_83 w, o1_84 w, o1_85 w, o1_86 w, o1_87 w, o1_88 w, o1_89 w, o1_90 w, o1_91 w, o1_92 w, o1_93 w, o1_94 w, o1_95 w, o1_96 w, o1_97 w, o1_98 w, o1_99 w]
def l2_4 (w : World) : List Obj := [o1_100 w, o1_101 w, o1_102 w, o1_103 w, o1_104 w, o1_105 w, o1_106 w, o1_107 w, o1_108 w, o1_109 w, o1_110 w, o1_111 w, o1_112 w, o1_113 w, o1_114 w, o1_115 w, o1_116 w, o1_117 w, o1_118 w, o1_119 w, o1_120 w, o1_121 w, o1_122 w, o1_123 w, o1_124 w]
def l2_5 (w : World) : List Obj := [o1_125 w, o1_126 w, o1_127 w, o1_128 w, o1_129 w, o1_130 w, o1_131 w, o1_132 w, o1_133 w, o1_134 w, o1_135 w, o1_136 w, o1_137 w, o1_138 w, o1_139 w, o1_140 w, o1_141 w, o1_142 w, o1_143 w, o1_144 w, o1_145 w, o1_146 w, o1_147 w, o1_148 w, o1_149 w]
def l2_6 (w : World) : List Obj := [o1_150 w, o1_151 w, o1_152 w, o1_153 w, o1_154 w, o1_155 w, o1_156 w, o1_157 w, o1_158 w, o1_159 w, o1_160 w, o1_161 w, o1_162 w, o1_163 w, o1_164 w, o1_165 w, o1_166 w, o1_167 w, o1_168 w, o1_169 w, o1_170 w, o1_171 w, o1_172 w, o1_173 w, o1_174 w]
def l2_7 (w : World) : List Obj := [o1_175 w, o1_176 w, o1_177 w, o1_178 w, o1_179 w, o1_180 w, o1_181 w, o1_182 w, o1_183 w, o1_184 w, o1_185 w, o1_186 w, o1_187 w, o1_188 w, o1_189 w, o1_190 w, o1_191 w, o1_192 w, o1_193 w, o1_194 w, o1_195 w, o1_196 w, o1_197 w, o1_198 w, o1_199 w]
def l2_8 (w : World) : List Obj := [o1_200 w, o1_201 w, o1_202 w, o1_203 w, o1_204 w, o1_205 w, o1_206 w, o1_207 w, o1_208 w, o1_209 w, o1_210 w, o1_211 w, o1_212 w, o1_213 w, o1_214 w, o1_215 w, o1_216 w, o1_217 w, o1_218 w, o1_219 w, o1_220 w, o1_221 w, o1_222 w, o1_223 w, o1_224 w]
def l2_9 (w : World) : List Obj := [o1_225 w, o1_226 w, o1_227 w, o1_228 w, o1_229 w, o1_230 w, o1_231 w, o1_232 w, o1_233 w, o1_234 w, o1_235 w, o1_236 w, o1_237 w, o1_238 w, o1_239 w, o1_240 w, o1_241 w, o1_242 w, o1_243 w, o1_244 w, o1_245 w, o1_246 w, o1_247 w, o1_248 w, o1_249 w]
def l2_10 (w : World) : List Obj := [o2_250 w, o2_251 w, o2_252 w, o2_253 w, o2_254 w, o2_255 w, o2_256 w, o2_257 w, o2_258 w, o2_259 w, o2_260 w, o2_261 w, o2_262 w, o2_263 w, o2_264 w, o2_265 w, o2_266 w, o2_267 w, o2_268 w, o2_269 w, o2_270 w, o2_271 w, o2_272 w, o2_273 w, o2_274 w]
def l2_11 (w : World) : List Obj := [o2_275 w, o2_276 w, o2_277 w, o2_278 w, o2_279 w, o2_280 w, o2_281 w, o2_282 w, o2_283 w, o2_284 w, o2_285 w, o2_286 w, o2_287 w, o2_288 w, o2_289 w, o2_290 w, o2_291 w, o2_292 w, o2_293 w, o2_294 w, o2_295 w, o2_296 w, o2_297 w, o2_298 w, o2_299 w]
def l2_12 (w : World) : List Obj := [o2_300 w, o2_301 w, o2_302 w, o2_303 w, o2_304 w, o2_305 w, o2_306 w, o2_307 w, o2_308 w, o2_309 w, o2_310 w, o2_311 w, o2_312 w, o2_313 w, o2_314 w, o2_315 w, o2_316 w, o2_317 w, o2_318 w, o2_319 w, o2_320 w, o2_321 w, o2_322 w, o2_323 w, o2_324 w]
def l2_13 (w : World) : List Obj := [o2_325 w, o2_326 w, o2_327 w, o2_328 w, o2_329 w, o2_330 w, o2_331 w, o2_332 w, o2_333 w, o2_334 w, o2_335 w, o2_336 w, o2_337 w, o2_338 w, o2_339 w, o2_340 w, o2_341 w, o2_342 w, o2_343 w, o2_344 w, o2_345 w, o2_346 w, o2_347 w, o2_348 w, o2_349 w]
def l2_14 (w : World) : List Obj := [o2_350 w, o2_351 w, o2_352 w, o2_353 w, o2_354 w, o2_355 w, o2_356 w, o2_357 w, o2_358 w, o2_359 w, o2_360 w, o2_361 w, o2_362 w, o2_363 w, o2_364 w, o2_365 w, o2_366 w, o2_367 w, o2_368 w, o2_369 w, o2_370 w, o2_371 w, o2_372 w, o2_373 w, o2_374 w]
def l2_15 (w : World) : List Obj := [o2_375 w, o2_376 w, o2_377 w, o2_378 w, o2_379 w, o2_380 w, o2_381 w, o2_382 w, o2_383 w, o2_384 w, o2_385 w, o2_386 w, o2_387 w, o2_388 w, o2_389 w, o2_390 w, o2_391 w, o2_392 w, o2_393 w, o2_394 w, o2_395 w, o2_396 w, o2_397 w, o2_398 w, o2_399 w]
def l2_16 (w : World) : List Obj := [o2_400 w, o2_401 w, o2_402 w, o2_403 w, o2_404 w, o2_405 w, o2_406 w, o2_407 w, o2_408 w, o2_409 w, o2_410 w, o2_411 w, o2_412 w, o2_413 w, o2_414 w, o2_415 w, o2_416 w, o2_417 w, o2_418 w, o2_419 w, o2_420 w, o2_421 w, o2_422 w, o2_423 w, o2_424 w]
def l2_17 (w : World) : List Obj := [o2_425 w, o2_426 w, o2_427 w, o2_428 w, o2_429 w, o2_430 w, o2_431 w, o2_432 w, o2_433 w, o2_434 w, o2_435 w, o2_436 w, o2_437 w, o2_438 w, o2_439 w, o2_440 w, o2_441 w, o2_442 w, o2_443 w, o2_444 w, o2_445 w, o2_446 w, o2_447 w, o2_448 w, o2_449 w]
def l2_18 (w : World) : List Obj := [o2_450 w, o2_451 w, o2_452 w, o2_453 w, o2_454 w, o2_455 w, o2_456 w, o2_457 w, o2_458 w, o2_459 w, o2_460 w, o2_461 w, o2_462 w, o2_463 w, o2_464 w, o2_465 w, o2_466 w, o2_467 w, o2_468 w, o2_469 w, o2_470 w, o2_471 w, o2_472 w, o2_473 w, o2_474 w]
def l2_19 (w : World) : List Obj := [o2_475 w, o2_476 w, o2_477 w, o2_478 w, o2_479 w, o2_480 w, o2_481 w, o2_482 w, o2_483 w, o2_484 w, o2_485 w, o2_486 w, o2_487 w, o2_488 w, o2_489 w, o2_490 w, o2_491 w, o2_492 w, o2_493 w, o2_494 w, o2_495 w, o2_496 w, o2_497 w, o2_498 w, o2_499 w]
def l2_20 (w : World) : List Obj := [o2_500 w, o2_501 w, o2_502 w, o2_503 w, o2_504 w, o2_505 w, o2_506 w, o2_507 w, o2_508 w, o2_509 w, o2_510 w, o2_511 w, o2_512 w, o2_513 w, o2_514 w, o2_515 w, o2_516 w, o2_517 w, o2_518 w, o2_519 w, o2_520 w, o2_521 w, o2_522 w, o2_523 w, o2_524 w]
def l2_21 (w : World) : List Obj := [o2_525 w, o2_526 w, o2_527 w, o2_528 w, o2_529 w, o2_530 w, o2_531 w, o2_532 w, o2_533 w, o2_534 w, o2_535 w, o2_536 w, o2_537 w, o2_538 w, o2_539 w, o2_540 w, o2_541 w, o2_542 w, o2_543 w, o2_544 w, o2_545 w, o2_546 w, o2_547 w, o2_548 w, o2_549 w]
def l2_22 (w : World) : List Obj := [o2_550 w, o2_551 w, o2_552 w, o2_553 w, o2_554 w, o2_555 w, o2_556 w, o2_557 w, o2_558 w, o2_559 w, o2_560 w, o2_561 w, o2_562 w, o2_563 w, o2_564 w, o2_565 w, o2_566 w, o2_567 w, o2_568 w, o2_569 w, o2_570 w, o2_571 w, o2_572 w, o2_573 w, o2_574 w]
def l2_23 (w : World) : List Obj := [o2_575 w, o2_576 w, o2_577 w, o2_578 w, o2_579 w, o2_580 w, o2_581 w, o2_582 w, o2_583 w, o2_584 w, o2_585 w, o2_586 w, o2_587 w, o2_588 w, o2_589 w, o2_590 w, o2_591 w, o2_592 w, o2_593 w, o2_594 w, o2_595 w, o2_596 w, o2_597 w, o2_598 w, o2_599 w]
def l2_24 (w : World) : List Obj := [o2_600 w, o2_601 w, o2_602 w, o2_603 w, o2_604 w, o2_605 w, o2_606 w, o2_607 w, o2_608 w, o2_609 w, o2_610 w, o2_611 w, o2_612 w, o2_613 w, o2_614 w, o2_615 w, o2_616 w, o2_617 w, o2_618 w, o2_619 w, o2_620 w, o2_621 w, o2_622 w, o2_623 w, o2_624 w]
def l2_25 (w : World) : List Obj := [o2_625 w, o2_626 w, o2_627 w, o2_628 w, o2_629 w, o2_630 w, o2_631 w, o2_632 w, o2_633 w, o2_634 w, o2_635 w, o2_636 w, o2_637 w, o2_638 w, o2_639 w, o2_640 w, o2_641 w, o2_642 w, o2_643 w, o2_644 w, o2_645 w, o2_646 w, o2_647 w, o2_648 w, o2_649 w]
def l2_26 (w : World) : List Obj := [o2_650 w]
def ll2 (w : World) : List Obj := l2_0 w ++ (l2_1 w ++ (l2_2 w ++ (l2_3 w ++ (l2_4 w ++ (l2_5 w ++ (l2_6 w ++ (l2_7 w ++ (l2_8 w ++ (l2_9 w ++ (l2_10 w ++ (l2_11 w ++ (l2_12 w ++ (l2_13 w ++ (l2_14 w ++ (l2_15 w ++ (l2_16 w ++ (l2_17 w ++ (l2_18 w ++ (l2_19 w ++ (l2_20 w ++ (l2_21 w ++ (l2_22 w ++ (l2_23 w ++ (l2_24 w ++ (l2_25 w ++ (l2_26 w))))))))))))))))))))))))))
def S2 (w : World) (os : OsState) : SharedT := stOf w os (ll2 w) 651 1088
def T2 (w : World) (os : OsState) : Thread := thOf PG w os 13 14 66 (PySem.Pos.mk 396 0 405 15)
theorem part2 (b : Bool) (w : World) (os : OsState) : goP (stepQ (denQ tabQ) PG (w.withFollow "special-get-raises" b)) 11 (bootAnn (w.withFollow "special-get-raises" b)) 3034 (S1 (w.withFollow "special-get-raises" b) os) (T1 (w.withFollow "special-get-raises" b) os) = some (S2 (w.withFollow "special-get-raises" b) os, T2 (w.withFollow "special-get-raises" b) os) := by cases b <;> kernel_rfl
def o3_3 (w : World) : Obj := (.mk (.type "dict") none (.dict (.mk (.cons (.mk (HQ.hS w "__name__") (.str "__name__" 165) (.str "law_haulprices_k65_claims_of_any_kind" 1011)) (.cons (.mk (HQ.hS w "__doc__") (.str "__doc__" 166) .none) (.cons (.mk (HQ.hS w "__package__") (.str "__package__" 167) .none) (.cons (.mk (HQ.hS w "__loader__") (.str "__loader__" 168) (.builtin "__main__.__loader__#opaque")) (.cons (.mk (HQ.hS w "__spec__") (.str "__spec__" 169) .none) (.cons (.mk (HQ.hS w "__annotations__") (.str "__annotations__" 170) (.ref 6)) (.cons (.mk (HQ.hS w "__builtins__") (.str "__builtins__" 171) (.ref 4)) (.cons (.mk (HQ.hS w "__file__") (.str "__file__" 173) (.str "/claim/cut.py" 172)) (.cons (.mk (HQ.hS w "__cached__") (.str "__cached__" 174) .none) (.cons (.mk (HQ.hS w "_wall") (.str "_wall" 193) (.ref 21)) (.cons (.mk (HQ.hS w "WrongValue") (.str "WrongValue" 213) (.ref 31)) (.cons (.mk (HQ.hS w "InvalidStops") (.str "InvalidStops" 238) (.ref 51)) (.cons (.mk (HQ.hS w "InvalidHaul") (.str "InvalidHaul" 263) (.ref 70)) (.cons (.mk (HQ.hS w "InvalidRules") (.str "InvalidRules" 288) (.ref 89)) (.cons (.mk (HQ.hS w "InvalidText") (.str "InvalidText" 313) (.ref 108)) (.cons (.mk (HQ.hS w "InvalidRanges") (.str "InvalidRanges" 338) (.ref 127)) (.cons (.mk (HQ.hS w "WrongRow") (.str "WrongRow" 363) (.ref 146)) (.cons (.mk (HQ.hS w "MOST_STOPS") (.str "MOST_STOPS" 365) (.int (Int.ofNat 10) 364)) (.cons (.mk (HQ.hS w "MOST_PRICE") (.str "MOST_PRICE" 369) (.int (Int.ofNat 1000000000000) 368)) (.cons (.mk (HQ.hS w "RULES") (.str "RULES" 375) (.ref 149)) (.cons (.mk (HQ.hS w "is_integer") (.str "is_integer" 382) (.ref 156)) (.cons (.mk (HQ.hS w "is_within") (.str "is_within" 391) (.ref 163)) (.cons (.mk (HQ.hS w "is_price") (.str "is_price" 398) (.ref 170)) (.cons (.mk (HQ.hS w "is_haul") (.str "is_haul" 404) (.ref 175)) (.cons (.mk (HQ.hS w "is_rules") (.str "is_rules" 411) (.ref 182)) (.cons (.mk (HQ.hS w "lies_within") (.str "lies_within" 419) (.ref 189)) (.cons (.mk (HQ.hS w "hauls_of") (.str "hauls_of" 425) (.ref 194)) (.cons (.mk (HQ.hS w "triples_of") (.str "triples_of" 431) (.ref 199)) (.cons (.mk (HQ.hS w "costs_in") (.str "costs_in" 437) (.ref 204)) (.cons (.mk (HQ.hS w "check_stops") (.str "check_stops" 444) (.ref 211)) (.cons (.mk (HQ.hS w "check_haul") (.str "check_haul" 452) (.ref 218)) (.cons (.mk (HQ.hS w "check_rules") (.str "check_rules" 459) (.ref 225)) (.cons (.mk (HQ.hS w "DIGITS") (.str "DIGITS" 463) (.str "0123456789" 462)) (.cons (.mk (HQ.hS w "is_range") (.str "is_range" 471) (.ref 232)) (.cons (.mk (HQ.hS w "number_in") (.str "number_in" 477) (.ref 237)) (.cons (.mk (HQ.hS w "stops_in") (.str "stops_in" 486) (.ref 244)) (.cons (.mk (HQ.hS w "range_in") (.str "range_in" 492) (.ref 249)) (.cons (.mk (HQ.hS w "Bounds") (.str "Bounds" 635) (.ref 342)) (.cons (.mk (HQ.hS w "break_of") (.str "break_of" 651) (.ref 353)) (.cons (.mk (HQ.hS w "SIZES") (.str "SIZES" 675) (.ref 354)) (.cons (.mk (HQ.hS w "Question") (.str "Question" 708) (.ref 371)) (.cons (.mk (HQ.hS w "bounds_in") (.str "bounds_in" 715) (.ref 382)) (.cons (.mk (HQ.hS w "question_in") (.str "question_in" 723) (.ref 389)) (.cons (.mk (HQ.hS w "are_prices") (.str "are_prices" 729) (.ref 394)) (.cons (.mk (HQ.hS w "is_fitting") (.str "is_fitting" 740) (.ref 401)) (.cons (.mk (HQ.hS w "is_cover") (.str "is_cover" 746) (.ref 406)) (.cons (.mk (HQ.hS w "cost_of") (.str "cost_of" 752) (.ref 411)) (.cons (.mk (HQ.hS w "stretch_cost") (.str "stretch_cost" 762) (.ref 418)) (.cons (.mk (HQ.hS w "is_beside") (.str "is_beside" 771) (.ref 425)) (.cons (.mk (HQ.hS w "shows_least") (.str "shows_least" 783) (.ref 432)) (.cons (.mk (HQ.hS w "fits_shown") (.str "fits_shown" 794) (.ref 439)) (.cons (.mk (HQ.hS w "none_shown") (.str "none_shown" 804) (.ref 446)) (.cons (.mk (HQ.hS w "most_shown") (.str "most_shown" 814) (.ref 453)) (.cons (.mk (HQ.hS w "least_shown") (.str "least_shown" 823) (.ref 460)) (.cons (.mk (HQ.hS w "can_shown") (.str "can_shown" 832) (.ref 467)) (.cons (.mk (HQ.hS w "lowest_shown") (.str "lowest_shown" 838) (.ref 472)) (.cons (.mk (HQ.hS w "no_lowest_shown") (.str "no_lowest_shown" 844) (.ref 477)) (.cons (.mk (HQ.hS w "SHOWN") (.str "SHOWN" 859) (.ref 478)) (.cons (.mk (HQ.hS w "accepts") (.str "accepts" 869) (.ref 485)) (.cons (.mk (HQ.hS w "Ledger") (.str "Ledger" 1010) (.ref 597)) (.cons (.mk (HQ.hS w "_law_well") (.str "_law_well" 1024) (.ref 608)) (.cons (.mk (HQ.hS w "_law_draw") (.str "_law_draw" 1034) (.ref 615)) (.cons (.mk (HQ.hS w "_law_pick") (.str "_law_pick" 1043) (.ref 622)) (.cons (.mk (HQ.hS w "_law_menu") (.str "_law_menu" 1053) (.ref 629)) (.cons (.mk (HQ.hS w "_law_text_like") (.str "_law_text_like" 1061) (.ref 636)) (.cons (.mk (HQ.hS w "_law_wrong") (.str "_law_wrong" 1074) (.ref 643)) (.cons (.mk (HQ.hS w "_law_right") (.str "_law_right" 1087) (.ref 650)) (.cons (.mk (HQ.hS w "law") (.str "law" 1093) (.ref 655)) []))))))))))))))))))))))))))))))))))))))))))))))))))))))))))))))))))))) 68) (.mk []))
def o3_12 (w : World) : Obj := (.mk .none none (.fields (.mk (.cons (.int (Int.ofNat 1) 0) (.cons (.int (Int.ofNat 0) 0) (.cons (.ref 20) (.cons (.int (Int.ofNat 5) 0) (.cons (.int (Int.ofNat 0) 0) (.cons (.ref 27) (.cons (.int (Int.ofNat 7) 0) (.cons (.int (Int.ofNat 0) 0) (.cons (.ref 40) (.cons (.int (Int.ofNat 11) 0) (.cons (.int (Int.ofNat 0) 0) (.cons (.ref 59) (.cons (.int (Int.ofNat 15) 0) (.cons (.int (Int.ofNat 0) 0) (.cons (.ref 78) (.cons (.int (Int.ofNat 19) 0) (.cons (.int (Int.ofNat 0) 0) (.cons (.ref 97) (.cons (.int (Int.ofNat 23) 0) (.cons (.int (Int.ofNat 0) 0) (.cons (.ref 116) (.cons (.int (Int.ofNat 27) 0) (.cons (.int (Int.ofNat 0) 0) (.cons (.ref 135) (.cons (.int (Int.ofNat 35) 0) (.cons (.int (Int.ofNat 0) 0) (.cons (.ref 155) (.cons (.int (Int.ofNat 37) 0) (.cons (.int (Int.ofNat 0) 0) (.cons (.ref 162) (.cons (.int (Int.ofNat 39) 0) (.cons (.int (Int.ofNat 0) 0) (.cons (.ref 169) (.cons (.int (Int.ofNat 41) 0) (.cons (.int (Int.ofNat 0) 0) (.cons (.ref 174) (.cons (.int (Int.ofNat 45) 0) (.cons (.int (Int.ofNat 0) 0) (.cons (.ref 181) (.cons (.int (Int.ofNat 47) 0) (.cons (.int (Int.ofNat 0) 0) (.cons (.ref 188) (.cons (.int (Int.ofNat 49) 0) (.cons (.int (Int.ofNat 0) 0) (.cons (.ref 193) (.cons (.int (Int.ofNat 54) 0) (.cons (.int (Int.ofNat 0) 0) (.cons (.ref 198) (.cons (.int (Int.ofNat 59) 0) (.cons (.int (Int.ofNat 0) 0) (.cons (.ref 203) (.cons (.int (Int.ofNat 61) 0) (.cons (.int (Int.ofNat 0) 0) (.cons (.ref 210) (.cons (.int (Int.ofNat 64) 0) (.cons (.int (Int.ofNat 0) 0) (.cons (.ref 217) (.cons (.int (Int.ofNat 67) 0) (.cons (.int (Int.ofNat 0) 0) (.cons (.ref 224) (.cons (.int (Int.ofNat 72) 0) (.cons (.int (Int.ofNat 0) 0) (.cons (.ref 231) (.cons (.int (Int.ofNat 76) 0) (.cons (.int (Int.ofNat 0) 0) (.cons (.ref 236) (.cons (.int (Int.ofNat 80) 0) (.cons (.int (Int.ofNat 0) 0) (.cons (.ref 243) (.cons (.int (Int.ofNat 84) 0) (.cons (.int (Int.ofNat 0) 0) (.cons (.ref 248) (.cons (.int (Int.ofNat 91) 0) (.cons (.int (Int.ofNat 0) 0) (.cons (.ref 255) (.cons (.int (Int.ofNat 154) 0) (.cons (.int (Int.ofNat 0) 0) (.cons (.ref 352) (.cons (.int (Int.ofNat 167) 0) (.cons (.int (Int.ofNat 0) 0) (.cons (.ref 360) (.cons (.int (Int.ofNat 174) 0) (.cons (.int (Int.ofNat 0) 0) (.cons (.ref 381) (.cons (.int (Int.ofNat 179) 0) (.cons (.int (Int.ofNat 0) 0) (.cons (.ref 388) (.cons (.int (Int.ofNat 188) 0) (.cons (.int (Int.ofNat 0) 0) (.cons (.ref 393) (.cons (.int (Int.ofNat 197) 0) (.cons (.int (Int.ofNat 0) 0) (.cons (.ref 400) (.cons (.int (Int.ofNat 205) 0) (.cons (.int (Int.ofNat 0) 0) (.cons (.ref 405) (.cons (.int (Int.ofNat 217) 0) (.cons (.int (Int.ofNat 0) 0) (.cons (.ref 410) (.cons (.int (Int.ofNat 222) 0) (.cons (.int (Int.ofNat 0) 0) (.cons (.ref 417) (.cons (.int (Int.ofNat 226) 0) (.cons (.int (Int.ofNat 0) 0) (.cons (.ref 424) (.cons (.int (Int.ofNat 232) 0) (.cons (.int (Int.ofNat 0) 0) (.cons (.ref 431) (.cons (.int (Int.ofNat 241) 0) (.cons (.int (Int.ofNat 0) 0) (.cons (.ref 438) (.cons (.int (Int.ofNat 243) 0) (.cons (.int (Int.ofNat 0) 0) (.cons (.ref 445) (.cons (.int (Int.ofNat 248) 0) (.cons (.int (Int.ofNat 0) 0) (.cons (.ref 452) (.cons (.int (Int.ofNat 251) 0) (.cons (.int (Int.ofNat 0) 0) (.cons (.ref 459) (.cons (.int (Int.ofNat 253) 0) (.cons (.int (Int.ofNat 0) 0) (.cons (.ref 466) (.cons (.int (Int.ofNat 255) 0) (.cons (.int (Int.ofNat 0) 0) (.cons (.ref 471) (.cons (.int (Int.ofNat 262) 0) (.cons (.int (Int.ofNat 0) 0) (.cons (.ref 476) (.cons (.int (Int.ofNat 273) 0) (.cons (.int (Int.ofNat 0) 0) (.cons (.ref 484) (.cons (.int (Int.ofNat 280) 0) (.cons (.int (Int.ofNat 0) 0) (.cons (.ref 491) (.cons (.int (Int.ofNat 330) 0) (.cons (.int (Int.ofNat 0) 0) (.cons (.ref 607) (.cons (.int (Int.ofNat 337) 0) (.cons (.int (Int.ofNat 0) 0) (.cons (.ref 614) (.cons (.int (Int.ofNat 346) 0) (.cons (.int (Int.ofNat 0) 0) (.cons (.ref 621) (.cons (.int (Int.ofNat 349) 0) (.cons (.int (Int.ofNat 0) 0) (.cons (.ref 628) (.cons (.int (Int.ofNat 359) 0) (.cons (.int (Int.ofNat 0) 0) (.cons (.ref 635) (.cons (.int (Int.ofNat 369) 0) (.cons (.int (Int.ofNat 0) 0) (.cons (.ref 642) (.cons (.int (Int.ofNat 396) 0) (.cons (.int (Int.ofNat 0) 0) (.cons (.ref 649) (.cons (.int (Int.ofNat 406) 0) (.cons (.int (Int.ofNat 0) 0) (.cons (.ref 654) []))))))))))))))))))))))))))))))))))))))))))))))))))))))))))))))))))))))))))))))))))))))))))))))))))))))))))))))))))))))))))))))))))))))))))))))))))))))))))))))))) (.mk []))
def o3_651 (w : World) : Obj := (.mk (.type "tuple") none (.seq (.mk []) 0) (.mk []))
def o3_652 (w : World) : Obj := (.mk .none none (.fields (.mk [])) (.mk []))
def o3_653 (w : World) : Obj := (.mk .none none (.func (FuncData.mk "law" "law" (L2.defArgs (HP.top 66)) (FuncBody.stmts (L2.defBody (HP.top 66))) (L2.defScope (HP.top 66)) 0 [] .none .none .none .none none .none .none 0)) (.mk []))
def o3_654 (w : World) : Obj := (.mk (.type "code") none (.fields (.mk [(.str "law" 1088), (.str "law" 1089), (.str "/claim/cut.py" 1090), (.int (Int.ofNat 406) 0), (.int (Int.ofNat 1) 0), (.int (Int.ofNat 0) 0), (.int (Int.ofNat 0) 0), (.int (Int.ofNat 3) 0), (.ref 651), (.bool true), (.int (Int.ofNat 181) 0), (.ref 652), .none, .none, .none, (.ref 653), (.int (Int.ofNat 1091) 0), (.int (Int.ofNat 406) 0), (.str "/claim/cut.py" 1092)])) (.mk []))
def o3_655 (w : World) : Obj := (.mk (.type "function") none (.func (FuncData.mk "law" "law" (L2.defArgs (HP.top 66)) (FuncBody.stmts (L2.defBody (HP.top 66))) (L2.defScope (HP.top 66)) 3 [] .none .none .none (.str "law_haulprices_k65_claims_of_any_kind" 1011) none (.ref 654) .none 0)) (.mk []))
def l3_0 (w : World) : List Obj := [o1_0 w, o1_1 w, o1_2 w, o3_3 w, o1_4 w, o1_5 w, o1_6 w, o1_7 w, o1_8 w, o1_9 w, o1_10 w, o1_11 w, o3_12 w, o1_13 w, o1_14 w, o1_15 w, o1_16 w, o1_17 w, o1_18 w, o1_19 w, o1_20 w, o1_21 w, o1_22 w, o1_23 w, o1_24 w]
def l3_1 (w : World) : List Obj := [o1_25 w, o1_26 w, o1_27 w, o1_28 w, o1_29 w, o1_30 w, o1_31 w, o1_32 w, o1_33 w, o1_34 w, o1_35 w, o1_36 w, o1_37 w, o1_38 w, o1_39 w, o1_40 w, o1_41 w, o1_42 w, o1_43 w, o1_44 w, o1_45 w, o1_46 w, o1_47 w, o1_48 w, o1_49 w]
def l3_2 (w : World) : List Obj := [o1_50 w, o1_51 w, o1_52 w, o1_53 w, o1_54 w, o1_55 w, o1_56 w, o1_57 w, o1_58 w, o1_59 w, o1_60 w, o1_61 w, o1_62 w, o1_63 w, o1_64 w, o1_65 w, o1_66 w, o1_67 w, o1_68 w, o1_69 w, o1_70 w, o1_71 w, o1_72 w, o1_73 w, o1_74 w]
def l3_3 (w : World) : List Obj := [o1_75 w, o1_76 w, o1_77 w, o1_78 w, o1_79 w, o1_80 w, o1_81 w, o1_82 w, o1_83 w, o1_84 w, o1_85 w, o1_86 w, o1_87 w, o1_88 w, o1_89 w, o1_90 w, o1_91 w, o1_92 w, o1_93 w, o1_94 w, o1_95 w, o1_96 w, o1_97 w, o1_98 w, o1_99 w]
def l3_4 (w : World) : List Obj := [o1_100 w, o1_101 w, o1_102 w, o1_103 w, o1_104 w, o1_105 w, o1_106 w, o1_107 w, o1_108 w, o1_109 w, o1_110 w, o1_111 w, o1_112 w, o1_113 w, o1_114 w, o1_115 w, o1_116 w, o1_117 w, o1_118 w, o1_119 w, o1_120 w, o1_121 w, o1_122 w, o1_123 w, o1_124 w]
def l3_5 (w : World) : List Obj := [o1_125 w, o1_126 w, o1_127 w, o1_128 w, o1_129 w, o1_130 w, o1_131 w, o1_132 w, o1_133 w, o1_134 w, o1_135 w, o1_136 w, o1_137 w, o1_138 w, o1_139 w, o1_140 w, o1_141 w, o1_142 w, o1_143 w, o1_144 w, o1_145 w, o1_146 w, o1_147 w, o1_148 w, o1_149 w]
def l3_6 (w : World) : List Obj := [o1_150 w, o1_151 w, o1_152 w, o1_153 w, o1_154 w, o1_155 w, o1_156 w, o1_157 w, o1_158 w, o1_159 w, o1_160 w, o1_161 w, o1_162 w, o1_163 w, o1_164 w, o1_165 w, o1_166 w, o1_167 w, o1_168 w, o1_169 w, o1_170 w, o1_171 w, o1_172 w, o1_173 w, o1_174 w]
def l3_7 (w : World) : List Obj := [o1_175 w, o1_176 w, o1_177 w, o1_178 w, o1_179 w, o1_180 w, o1_181 w, o1_182 w, o1_183 w, o1_184 w, o1_185 w, o1_186 w, o1_187 w, o1_188 w, o1_189 w, o1_190 w, o1_191 w, o1_192 w, o1_193 w, o1_194 w, o1_195 w, o1_196 w, o1_197 w, o1_198 w, o1_199 w]
def l3_8 (w : World) : List Obj := [o1_200 w, o1_201 w, o1_202 w, o1_203 w, o1_204 w, o1_205 w, o1_206 w, o1_207 w, o1_208 w, o1_209 w, o1_210 w, o1_211 w, o1_212 w, o1_213 w, o1_214 w, o1_215 w, o1_216 w, o1_217 w, o1_218 w, o1_219 w, o1_220 w, o1_221 w, o1_222 w, o1_223 w, o1_224 w]
def l3_9 (w : World) : List Obj := [o1_225 w, o1_226 w, o1_227 w, o1_228 w, o1_229 w, o1_230 w, o1_231 w, o1_232 w, o1_233 w, o1_234 w, o1_235 w, o1_236 w, o1_237 w, o1_238 w, o1_239 w, o1_240 w, o1_241 w, o1_242 w, o1_243 w, o1_244 w, o1_245 w, o1_246 w, o1_247 w, o1_248 w, o1_249 w]
def l3_10 (w : World) : List Obj := [o2_250 w, o2_251 w, o2_252 w, o2_253 w, o2_254 w, o2_255 w, o2_256 w, o2_257 w, o2_258 w, o2_259 w, o2_260 w, o2_261 w, o2_262 w, o2_263 w, o2_264 w, o2_265 w, o2_266 w, o2_267 w, o2_268 w, o2_269 w, o2_270 w, o2_271 w, o2_272 w, o2_273 w, o2_274 w]
def l3_11 (w : World) : List Obj := [o2_275 w, o2_276 w, o2_277 w, o2_278 w, o2_279 w, o2_280 w, o2_281 w, o2_282 w, o2_283 w, o2_284 w, o2_285 w, o2_286 w, o2_287 w, o2_288 w, o2_289 w, o2_290 w, o2_291 w, o2_292 w, o2_293 w, o2_294 w, o2_295 w, o2_296 w, o2_297 w, o2_298 w, o2_299 w]
def l3_12 (w : World) : List Obj := [o2_300 w, o2_301 w, o2_302 w, o2_303 w, o2_304 w, o2_305 w, o2_306 w, o2_307 w, o2_308 w, o2_309 w, o2_310 w, o2_311 w, o2_312 w, o2_313 w, o2_314 w, o2_315 w, o2_316 w, o2_317 w, o2_318 w, o2_319 w, o2_320 w, o2_321 w, o2_322 w, o2_323 w, o2_324 w]
def l3_13 (w : World) : List Obj := [o2_325 w, o2_326 w, o2_327 w, o2_328 w, o2_329 w, o2_330 w, o2_331 w, o2_332 w, o2_333 w, o2_334 w, o2_335 w, o2_336 w, o2_337 w, o2_338 w, o2_339 w, o2_340 w, o2_341 w, o2_342 w, o2_343 w, o2_344 w, o2_345 w, o2_346 w, o2_347 w, o2_348 w, o2_349 w]
def l3_14 (w : World) : List Obj := [o2_350 w, o2_351 w, o2_352 w, o2_353 w, o2_354 w, o2_355 w, o2_356 w, o2_357 w, o2_358 w, o2_359 w, o2_360 w, o2_361 w, o2_362 w, o2_363 w, o2_364 w, o2_365 w, o2_366 w, o2_367 w, o2_368 w, o2_369 w, o2_370 w, o2_371 w, o2_372 w, o2_373 w, o2_374 w]
def l3_15 (w : World) : List Obj := [o2_375 w, o2_376 w, o2_377 w, o2_378 w, o2_379 w, o2_380 w, o2_381 w, o2_382 w, o2_383 w, o2_384 w, o2_385 w, o2_386 w, o2_387 w, o2_388 w, o2_389 w, o2_390 w, o2_391 w, o2_392 w, o2_393 w, o2_394 w, o2_395 w, o2_396 w, o2_397 w, o2_398 w, o2_399 w]
def l3_16 (w : World) : List Obj := [o2_400 w, o2_401 w, o2_402 w, o2_403 w, o2_404 w, o2_405 w, o2_406 w, o2_407 w, o2_408 w, o2_409 w, o2_410 w, o2_411 w, o2_412 w, o2_413 w, o2_414 w, o2_415 w, o2_416 w, o2_417 w, o2_418 w, o2_419 w, o2_420 w, o2_421 w, o2_422 w, o2_423 w, o2_424 w]
def l3_17 (w : World) : List Obj := [o2_425 w, o2_426 w, o2_427 w, o2_428 w, o2_429 w, o2_430 w, o2_431 w, o2_432 w, o2_433 w, o2_434 w, o2_435 w, o2_436 w, o2_437 w, o2_438 w, o2_439 w, o2_440 w, o2_441 w, o2_442 w, o2_443 w, o2_444 w, o2_445 w, o2_446 w, o2_447 w, o2_448 w, o2_449 w]
def l3_18 (w : World) : List Obj := [o2_450 w, o2_451 w, o2_452 w, o2_453 w, o2_454 w, o2_455 w, o2_456 w, o2_457 w, o2_458 w, o2_459 w, o2_460 w, o2_461 w, o2_462 w, o2_463 w, o2_464 w, o2_465 w, o2_466 w, o2_467 w, o2_468 w, o2_469 w, o2_470 w, o2_471 w, o2_472 w, o2_473 w, o2_474 w]
def l3_19 (w : World) : List Obj := [o2_475 w, o2_476 w, o2_477 w, o2_478 w, o2_479 w, o2_480 w, o2_481 w, o2_482 w, o2_483 w, o2_484 w, o2_485 w, o2_486 w, o2_487 w, o2_488 w, o2_489 w, o2_490 w, o2_491 w, o2_492 w, o2_493 w, o2_494 w, o2_495 w, o2_496 w, o2_497 w, o2_498 w, o2_499 w]
def l3_20 (w : World) : List Obj := [o2_500 w, o2_501 w, o2_502 w, o2_503 w, o2_504 w, o2_505 w, o2_506 w, o2_507 w, o2_508 w, o2_509 w, o2_510 w, o2_511 w, o2_512 w, o2_513 w, o2_514 w, o2_515 w, o2_516 w, o2_517 w, o2_518 w, o2_519 w, o2_520 w, o2_521 w, o2_522 w, o2_523 w, o2_524 w]
def l3_21 (w : World) : List Obj := [o2_525 w, o2_526 w, o2_527 w, o2_528 w, o2_529 w, o2_530 w, o2_531 w, o2_532 w, o2_533 w, o2_534 w, o2_535 w, o2_536 w, o2_537 w, o2_538 w, o2_539 w, o2_540 w, o2_541 w, o2_542 w, o2_543 w, o2_544 w, o2_545 w, o2_546 w, o2_547 w, o2_548 w, o2_549 w]
def l3_22 (w : World) : List Obj := [o2_550 w, o2_551 w, o2_552 w, o2_553 w, o2_554 w, o2_555 w, o2_556 w, o2_557 w, o2_558 w, o2_559 w, o2_560 w, o2_561 w, o2_562 w, o2_563 w, o2_564 w, o2_565 w, o2_566 w, o2_567 w, o2_568 w, o2_569 w, o2_570 w, o2_571 w, o2_572 w, o2_573 w, o2_574 w]
def l3_23 (w : World) : List Obj := [o2_575 w, o2_576 w, o2_577 w, o2_578 w, o2_579 w, o2_580 w, o2_581 w, o2_582 w, o2_583 w, o2_584 w, o2_585 w, o2_586 w, o2_587 w, o2_588 w, o2_589 w, o2_590 w, o2_591 w, o2_592 w, o2_593 w, o2_594 w, o2_595 w, o2_596 w, o2_597 w, o2_598 w, o2_599 w]
def l3_24 (w : World) : List Obj := [o2_600 w, o2_601 w, o2_602 w, o2_603 w, o2_604 w, o2_605 w, o2_606 w, o2_607 w, o2_608 w, o2_609 w, o2_610 w, o2_611 w, o2_612 w, o2_613 w, o2_614 w, o2_615 w, o2_616 w, o2_617 w, o2_618 w, o2_619 w, o2_620 w, o2_621 w, o2_622 w, o2_623 w, o2_624 w]
def l3_25 (w : World) : List Obj := [o2_625 w, o2_626 w, o2_627 w, o2_628 w, o2_629 w, o2_630 w, o2_631 w, o2_632 w, o2_633 w, o2_634 w, o2_635 w, o2_636 w, o2_637 w, o2_638 w, o2_639 w, o2_640 w, o2_641 w, o2_642 w, o2_643 w, o2_644 w, o2_645 w, o2_646 w, o2_647 w, o2_648 w, o2_649 w]
def l3_26 (w : World) : List Obj := [o2_650 w, o3_651 w, o3_652 w, o3_653 w, o3_654 w, o3_655 w]
def ll3 (w : World) : List Obj := l3_0 w ++ (l3_1 w ++ (l3_2 w ++ (l3_3 w ++ (l3_4 w ++ (l3_5 w ++ (l3_6 w ++ (l3_7 w ++ (l3_8 w ++ (l3_9 w ++ (l3_10 w ++ (l3_11 w ++ (l3_12 w ++ (l3_13 w ++ (l3_14 w ++ (l3_15 w ++ (l3_16 w ++ (l3_17 w ++ (l3_18 w ++ (l3_19 w ++ (l3_20 w ++ (l3_21 w ++ (l3_22 w ++ (l3_23 w ++ (l3_24 w ++ (l3_25 w ++ (l3_26 w))))))))))))))))))))))))))
def S3 (w : World) (os : OsState) : SharedT := stOf w os (ll3 w) 656 1094
theorem chain1 (w : World) (os : OsState) : endF (stepQ (denQ tabQ) PG w) (2223 + 17777) PG w os = goF (stepQ (denQ tabQ) PG w) 11 (bootAnn w) 17777 (S1 w os) (T1 w os) := beg_F 17777 (bootN_ok w) (part1 w os)
theorem chain2 (b : Bool) (w : World) (os : OsState) : endF (stepQ (denQ tabQ) PG (w.withFollow "special-get-raises" b)) 20000 PG (w.withFollow "special-get-raises" b) os = goF (stepQ (denQ tabQ) PG (w.withFollow "special-get-raises" b)) 11 (bootAnn (w.withFollow "special-get-raises" b)) 14743 (S2 (w.withFollow "special-get-raises" b) os) (T2 (w.withFollow "special-get-raises" b) os) := (chain1 (w.withFollow "special-get-raises" b) os).trans (goP_F 14743 (k := 3034) (part2 b w os))
theorem fin_ (b : Bool) (w : World) (os : OsState) : goF (stepQ (denQ tabQ) PG (w.withFollow "special-get-raises" b)) 11 (bootAnn (w.withFollow "special-get-raises" b)) 14743 (S2 (w.withFollow "special-get-raises" b) os) (T2 (w.withFollow "special-get-raises" b) os) = some (S3 (w.withFollow "special-get-raises" b) os) := by cases b <;> kernel_rfl
theorem all_ (b : Bool) (w : World) (os : OsState) : endF (stepQ (denQ tabQ) PG (w.withFollow "special-get-raises" b)) 20000 PG (w.withFollow "special-get-raises" b) os = some (S3 (w.withFollow "special-get-raises" b) os) := (chain2 b w os).trans (fin_ b w os)
end
end HP
set_option maxRecDepth 100000
set_option maxHeartbeats 0
namespace HP
open PySem PySem.W PySem.Calls PyProof.Rows MP
abbrev Rr : OpenRow := OpenLaw.row PySem.Challenge.rw_haulprices_k65_claims_of_any_kind
def adrs : List Addr := [3, 6, 4, 21, 31, 51, 70, 89, 108, 127, 146, 149, 156, 163, 170, 175, 182, 189, 194, 199, 204, 211, 218, 225, 232, 237, 244, 249, 342, 353, 354, 371, 382, 389, 394, 401, 406, 411, 418, 425, 432, 439, 446, 453, 460, 467, 472, 477, 478, 485, 597, 608, 615, 622, 629, 636, 643, 650, 655, 0, 20, 30, 50, 69, 88, 107, 126, 145, 155, 162, 169, 174, 181, 188, 193, 198, 203, 210, 217, 224, 231, 236, 243, 248, 341, 352, 370, 381, 388, 393, 400, 405, 410, 417, 424, 431, 438, 445, 452, 459, 466, 471, 476, 484, 596, 607, 614, 621, 628, 635, 642, 649, 654, 15, 16, 17, 18, 19, 29, 32, 48, 49, 67, 68, 86, 87, 105, 106, 124, 125, 143, 144, 150, 151, 152, 153, 154, 157, 158, 159, 160, 161, 164, 165, 166, 167, 168, 171, 172, 173, 176, 177, 178, 179, 180, 183, 184, 185, 186, 187, 190, 191, 192, 195, 196, 197, 200, 201, 202, 205, 206, 207, 208, 209, 212, 213, 214, 215, 216, 219, 220, 221, 222, 223, 226, 227, 228, 229, 230, 233, 234, 235, 238, 239, 240, 241, 242, 245, 246, 247, 265, 274, 284, 293, 301, 308, 315, 320, 325, 332, 339, 340, 343, 344, 347, 348, 349, 350, 351, 368, 369, 372, 373, 376, 377, 378, 379, 380, 383, 384, 385, 386, 387, 390, 391, 392, 395, 396, 397, 398, 399, 402, 403, 404, 407, 408, 409, 412, 413, 414, 415, 416, 419, 420, 421, 422, 423, 426, 427, 428, 429, 430, 433, 434, 435, 436, 437, 440, 441, 442, 443, 444, 447, 448, 449, 450, 451, 454, 455, 456, 457, 458, 461, 462, 463, 464, 465, 468, 469, 470, 473, 474, 475, 479, 480, 481, 482, 483, 500, 508, 516, 524, 531, 538, 545, 552, 559, 566, 573, 580, 587, 594, 595, 598, 599, 602, 603, 604, 605, 606, 609, 610, 611, 612, 613, 616, 617, 618, 619, 620, 623, 624, 625, 626, 627, 630, 631, 632, 633, 634, 637, 638, 639, 640, 641, 644, 645, 646, 647, 648, 651, 652, 653, 47, 66, 85, 104, 123, 142, 264, 258, 272, 273, 282, 283, 292, 300, 307, 314, 319, 324, 331, 338, 367, 499, 493, 507, 515, 523, 530, 537, 544, 551, 558, 565, 572, 579, 586, 593, 42, 43, 44, 45, 46, 61, 62, 63, 64, 65, 80, 81, 82, 83, 84, 99, 100, 101, 102, 103, 118, 119, 120, 121, 122, 137, 138, 139, 140, 141, 259, 260, 261, 262, 263, 257, 271, 275, 281, 285, 291, 299, 302, 303, 304, 305, 306, 309, 310, 311, 312, 313, 316, 317, 318, 321, 322, 323, 326, 327, 328, 329, 330, 333, 334, 335, 336, 337, 362, 363, 364, 365, 366, 494, 495, 496, 497, 498, 506, 514, 522, 525, 526, 527, 528, 529, 532, 533, 534, 535, 536, 539, 540, 541, 542, 543, 546, 547, 548, 549, 550, 553, 554, 555, 556, 557, 560, 561, 562, 563, 564, 567, 568, 569, 570, 571, 574, 575, 576, 577, 578, 581, 582, 583, 584, 585, 588, 589, 590, 591, 592, 1, 2, 5, 7, 8, 9, 10]
abbrev hk : PySem.W.Hook := hookLT adrs fa fm fn ts
def ob (s : PySem.W.SharedT) : AlMT := obLT adrs fa fm fn ts (HandSHeadRun.getT s)
theorem ob_eq (s : PySem.W.SharedT) : ob s = hk.obs s.abs := obLT_eq (HandSHeadRun.getT_eq s)
def names : List PySem.Str := ([("_wall" : PySem.Str), ("WrongValue" : PySem.Str), ("InvalidStops" : PySem.Str), ("InvalidHaul" : PySem.Str), ("InvalidRules" : PySem.Str), ("InvalidText" : PySem.Str), ("InvalidRanges" : PySem.Str), ("WrongRow" : PySem.Str), ("MOST_STOPS" : PySem.Str), ("MOST_PRICE" : PySem.Str), ("RULES" : PySem.Str), ("is_integer" : PySem.Str), ("is_within" : PySem.Str), ("is_price" : PySem.Str), ("is_haul" : PySem.Str), ("is_rules" : PySem.Str), ("lies_within" : PySem.Str), ("hauls_of" : PySem.Str), ("triples_of" : PySem.Str), ("costs_in" : PySem.Str), ("check_stops" : PySem.Str), ("check_haul" : PySem.Str), ("check_rules" : PySem.Str), ("DIGITS" : PySem.Str), ("is_range" : PySem.Str), ("number_in" : PySem.Str), ("stops_in" : PySem.Str), ("range_in" : PySem.Str), ("Bounds" : PySem.Str), ("break_of" : PySem.Str), ("SIZES" : PySem.Str), ("Question" : PySem.Str), ("bounds_in" : PySem.Str), ("question_in" : PySem.Str), ("are_prices" : PySem.Str)] : List PySem.Str) ++ ([("is_fitting" : PySem.Str), ("is_cover" : PySem.Str), ("cost_of" : PySem.Str), ("stretch_cost" : PySem.Str), ("is_beside" : PySem.Str), ("shows_least" : PySem.Str), ("fits_shown" : PySem.Str), ("none_shown" : PySem.Str), ("most_shown" : PySem.Str), ("least_shown" : PySem.Str), ("can_shown" : PySem.Str), ("lowest_shown" : PySem.Str), ("no_lowest_shown" : PySem.Str), ("SHOWN" : PySem.Str), ("accepts" : PySem.Str), ("Ledger" : PySem.Str), ("_law_well" : PySem.Str), ("_law_draw" : PySem.Str), ("_law_pick" : PySem.Str), ("_law_menu" : PySem.Str), ("_law_text_like" : PySem.Str), ("_law_wrong" : PySem.Str), ("_law_right" : PySem.Str)] : List PySem.Str)
theorem look_ (w : World) (os : OsState) : HandSHeadRun.looksF Rr.prog (boot_heap w.params) (HP.S3 w os).abs = true := by kernel_rfl
theorem seen_ (w : World) (os : OsState) : HandSHeadRun.seenQ (view Rr.prog [66]) names (importedModules Rr.prog.main.body) (fun s => xlAt (view Rr.prog [66]) [] s && recOk Rr.toRowW.records s) (HP.S3 w os).abs = openGood (view Rr.prog [66]) names := by kernel_rfl
theorem obs_ (w : World) (os : OsState) : ob (HP.S3 w os) = hk.val w := by kernel_rfl
theorem run_b (b : Bool) (w : World) : HandSHeadRun.RunEq Rr (view Rr.prog [66]) hk ob 20000 names (w.withFollow "special-get-raises" b) := by
  intro os
  show (HandSHeadRun.endF (HandSHeadRun.stepQ (HandSHeadRun.denQ HandSHeadRun.tabQ) HP.PG (w.withFollow "special-get-raises" b)) 20000 HP.PG (w.withFollow "special-get-raises" b) os).map _ = _
  rw [show HandSHeadRun.endF (HandSHeadRun.stepQ (HandSHeadRun.denQ HandSHeadRun.tabQ) HP.PG (w.withFollow "special-get-raises" b)) 20000 HP.PG (w.withFollow "special-get-raises" b) os = _ from HP.all_ b w os, Option.map_some, look_ (w.withFollow "special-get-raises" b) os, seen_ (w.withFollow "special-get-raises" b) os, obs_ (w.withFollow "special-get-raises" b) os]
theorem run (w : World) : HandSHeadRun.RunEq Rr (view Rr.prog [66]) hk ob 20000 names w := by
  have h := run_b (w.params.followText "special-get-raises") w
  rwa [World.withFollow_self] at h
end HP
set_option maxRecDepth 100000
set_option maxHeartbeats 0
open PySem PySem.W PySem.Calls PyProof.Rows
theorem PySem.Challenge.cw_haulprices_k65_claims_of_any_kind_holds : PySem.Challenge.rw_haulprices_k65_claims_of_any_kind.Holds := by
  w_on; o_law
  refine HandSHeadRun.head_any (r := HP.Rr) (q := view HP.Rr.prog [66]) (H := HP.hk) (ob := HP.ob) (M := 20000) (loose := HP.names) (d := HandSHeadRun.topDef HP.Rr.prog 66) (kwd := []) HP.ob_eq
    (by kernel_rfl) (fun s => by kernel_rfl) HP.run (by kernel_rfl) (by kernel_rfl) (by kernel_rfl) (by rfl) (by first | assumption | decide +kernel) (by decide +kernel) ⟨rfl, rfl, rfl, rfl, rfl, by decide +kernel⟩ ?hw ?hc
  case hw => w_witness2
  case hc =>
    refine MP.walk_ofG (l := PySem.Challenge.rw_haulprices_k65_claims_of_any_kind) (n := 63) (k := 12) (x := "_law_script") (CX := MP.CXa (PySem.Challenge.rw_haulprices_k65_claims_of_any_kind).prog) rfl (by decide) (by kernel_rfl) ⟨rfl, by decide, by decide⟩ ?F MP.cxa_end
    intro w mg fa h Y G hmg0
    obtain ⟨K, KX, c⟩ := Y
    have hmg : mg ("law" : PySem.Str) = some (.ref fa) := by
      have e : (HandSHeadRun.topDef HP.Rr.prog 66).name = ("law" : PySem.Str) := by kernel_rfl
      rw [← e]
      exact hmg0
    have eg := hmg.symm.trans (He.glo_ok KX G (x := "law") (c.a 74 rfl))
    cases eg
    exact HP.law_F KX G c
