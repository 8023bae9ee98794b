import PyProof.Rows.All
import Wide.All
import OpenK.AllK
import Wide.FinOn
import HandS.ForMost
import HandS.ExcInit
import HandS.WordsExc
import HandS.Lambda
import HandS.Wide
import HandS.ExcField
import KE.KDictKeyed
import KE.GoesDict
import HandS.TupAny
import HandS.Deep
import HandS.IsInst
import HandS.Flow
import HandS.CallSlots
import HandS.FStr
import HandS.Zip
import HandS.Defaults
import HandS.More
import HandS.Text
import HandS.Ends
import KE.KTryMore
import HandS.HotCalls
import HandS.EndOwn
import KE.KNestM
import KE.KUnpackStar
import HandS.SortInts
import HandS.TupMul
import HandS.Conv
import HandS.OwnEq
import OpenK.KOps
import HandS.Codes
import KE.KDictZip
import HandS.Zip0
import HandS.ListItems
import KE.GoesMore
import HandS.Style
import HandS.IterVal
import HandS.SetBool
import HandS.Strs
import KE.KIndexOf
import HandS.SetFor
import PyProof.NeKinds
import HandS.SetTxt0
import PyProof.Rows.SortShellAny
import HandS.Iter
import KE.KDictDisplayH
import HandS.MakeKwOnly
import PyProof.ReprRoads
import PyProof.ReprText
import PyProof.ReprBulk
import PyProof.Rows.RegStrFacts
import HandS.TryOnly
import PySem.Challenge.RW_earlywrite_k18_values_of_expressions
/- part -/
set_option Elab.async false
set_option linter.all false
set_option maxRecDepth 100000
set_option maxHeartbeats 4000000
namespace DL
open PySem PySem.Spec PyProof.Rows L2
inductive Xk where
  | dct | oth (n : Nat)
  deriving DecidableEq
inductive D where
  | non | bl (b : Bool) | int (i : Int) | str (s : Str)
  | tup (xs : List D) | lst (xs : List D) | scr (ns : List Int)
  /-- a list that slot n of some frame has for its own and lends -/
  | tl (n : Nat) (xs : List D)
  | obj (c : Str) (fs : List (Str × D)) | fn (x : Str) | exc (c : Str) (fs : List (Str × D))
  /-- a dict: its keys, its values -/
  | xt (k : Xk) (ks vs : List D)
structure Mx where
  K : PySem.W.Frag
  mg : Str → Option Value
  ca : Str → Addr
  T : List (Addr × Str)
  w : World
def XcOk (K : PySem.W.Frag) (C : Addr) (ns : List Str) : Prop := XfC K C ∧ ∀ f ∈ ns, PySem.W.findIn K (.ref C) f = some none
def ObOk (K : PySem.W.Frag) (C : Addr) (ns : List Str) : Prop := Cls K C ∧ ∀ f ∈ ns, NoAttr K C f
def xo (a : Addr) (oe : Obj) : HO := .ext fun h => h.get? a = some oe
def o0 : Obj := { cls := .none, data := .fields #[] }
def bw (n : Nat) (vs : List V) : HO := .frz o0 (.frz o0 (.tup (.int n :: vs)))
def NdF (F : Hp) (c : Str) (vs : List (Str × V)) : Prop := c = "DigitSet" → ∀ v : V, vs.lookup ("digits" : Str) = some v → ∃ (p : Addr) (od : Obj) (us : List V), v = V.ref p ∧ F p = some (.frz od (.tup us)) ∧ od.dict = none
mutual
def nk : D → NestedKey
  | .int i => .num i
  | .str x => .text x
  | .tup ds => .tup (nks ds)
  | _ => .none
def nks : List D → List NestedKey
  | [] => []
  | d :: r => nk d :: nks r
end
mutual
def kOk : Nat → D → Bool
  | _, .int _ => true
  | _, .str _ => true
  | _, .non => true
  | 0, _ => false
  | n + 1, .tup ds => kOks n ds
  | _, _ => false
def kOks : Nat → List D → Bool
  | _, [] => true
  | n, d :: r => kOk n d && kOks n r
end
def isTupD : D → Bool
  | .tup _ => true
  | _ => false
def leafD : D → Bool
  | .int _ => true
  | .str _ => true
  | _ => false
def KsOk (ks : List D) : Prop := (ks.map nk).Nodup ∧ (∀ k ∈ ks, kOk 8 k = true) ∧ ((∀ k ∈ ks, leafD k = true) ∨ ∀ k ∈ ks, isTupD k = true)
def entL (w : World) : List D → List Value → List Value → List DictEntry
  | k :: ks, u :: us, x :: xs => ⟨(nk k).hash w, u, x⟩ :: entL w ks us xs
  | _, _, _ => []
def DctF (w : World) (a : Addr) (o : Obj) (us ws : List V) (ks : List D) : Prop :=
  (a == sysModules) = false ∧ KsOk ks ∧ us.length = ks.length ∧ ws.length = ks.length ∧ ks.length ≤ 1000000 ∧ ∃ (xs ys : List Value) (ep : Nat), Vals us xs ∧ Vals ws ys ∧ o.ExactDict ∧ o.data = .dict (entL w ks xs ys).toArray ep
def DctP (w : World) (a : Addr × Obj) (us ws : List V) (ks vs : List D) (h : Heap) : Prop := h.get? a.1 = some a.2 ∧ DctF w a.1 a.2 us ws ks
def XtP (w : World) (k : Xk) (a : Addr × Obj) (us ws : List V) (ks vs : List D) (h : Heap) : Prop := match k with
  | .dct => DctP w a us ws ks vs h
  | .oth _ => False
abbrev XtO (M : Mx) (k : Xk) (a : Addr × Obj) (us ws : List V) (ks vs : List D) : HO := .ext (XtP M.w k a us ws ks vs)
mutual
inductive Rep (M : Mx) (F : Hp) : V → D → Prop
  | non : Rep M F .non .non
  | bl (b : Bool) : Rep M F (.bl b) (.bl b)
  | int (i : Int) : Rep M F (.int i) (.int i)
  | str (x : Str) : Rep M F (.str x) (.str x)
  | tup {a : Addr} {vs : List V} {ds : List D} : SqT M.K F a vs → Reps M F vs ds → Rep M F (.ref a) (.tup ds)
  | lst {a : Addr} {vs : List V} {ds : List D} : F a = some (.lst vs) → Reps M F vs ds → Rep M F (.ref a) (.lst ds)
  | scr {a : Addr} {ns : List Int} : SqL M.K F a (ns.map V.int) → Rep M F (.ref a) (.scr ns)
  | obj {a dx : Addr} {c : Str} {vs : List (Str × V)} {fs : List (Str × D)} : F a = some (.ins (M.ca c) dx vs) → RepF M F vs fs → ObOk M.K (M.ca c) (fs.map (·.1)) → NdF F c vs → Rep M F (.ref a) (.obj c fs)
  | fn {a : Addr} {x : Str} : M.mg x = some (.ref a) → Rep M F (.ref a) (.fn x)
  | tl {a : Addr} {n : Nat} {vs : List V} {ds : List D} : F a = some (bw n vs) → Reps M F vs ds → Rep M F (.ref a) (.tl n ds)
  | exc {a dx : Addr} {oe : Obj} {c : Str} {vs : List (Str × V)} {fs : List (Str × D)} : F a = some (xo a oe) → Zc (.ref (M.ca c)) (some dx) oe → (∃ ws, oe.data = .fields ws) → F dx = some (.xd vs) → RepF M F vs fs → XcOk M.K (M.ca c) (fs.map (·.1)) → Rep M F (.ref a) (.exc c fs)
  | xt {a : Addr} {a' : Addr × Obj} {k : Xk} {us ws : List V} {ks vs : List D} : F a = some (XtO M k a' us ws ks vs) → Reps M F us ks → Reps M F ws vs → Rep M F (.ref a) (.xt k ks vs)
inductive Reps (M : Mx) (F : Hp) : List V → List D → Prop
  | nil : Reps M F [] []
  | cons {v : V} {vs : List V} {d : D} {ds : List D} : Rep M F v d → Reps M F vs ds → Reps M F (v :: vs) (d :: ds)
inductive RepF (M : Mx) (F : Hp) : List (Str × V) → List (Str × D) → Prop
  | nil : RepF M F [] []
  | cons {f : Str} {v : V} {vs : List (Str × V)} {d : D} {fs : List (Str × D)} : Rep M F v d → RepF M F vs fs → RepF M F ((f, v) :: vs) ((f, d) :: fs)
end
theorem same_rd {H H' : Hp} {a : Addr} {u : HO} (e : Same H H') (h : Rd H a u) : Rd H' a u := by
  rcases h with h | ⟨o, h⟩
  · exact .inl (e _ _ h)
  · exact .inr ⟨o, e _ _ h⟩
theorem same_sqT {K : PySem.W.Frag} {H H' : Hp} {a : Addr} {xs : List V} (e : Same H H') (h : SqT K H a xs) : SqT K H' a xs := by
  rcases h with h | h
  · exact .inl (same_rd e h)
  · exact .inr h
theorem same_sqL {K : PySem.W.Frag} {H H' : Hp} {a : Addr} {xs : List V} (e : Same H H') (h : SqL K H a xs) : SqL K H' a xs := by
  rcases h with h | h
  · exact .inl (same_rd e h)
  · exact .inr h
theorem NdF.up {F F' : Hp} (e : Same F F') {c : Str} {vs : List (Str × V)} (h : NdF F c vs) : NdF F' c vs := fun z v q => by
  obtain ⟨p, od, us, e1, e2, e3⟩ := h z v q
  exact ⟨p, od, us, e1, e _ _ e2, e3⟩
theorem NdF.nil {F : Hp} {c : Str} : NdF F c [] := fun _ v q => by cases q
section
variable {M : Mx} {F F' : Hp}
mutual
theorem Rep.mono (e : Same F F') : ∀ (d : D) (v : V), Rep M F v d → Rep M F' v d
  | .non, _, h => by
    cases h
    exact .non
  | .bl b, _, h => by
    cases h
    exact .bl b
  | .int b, _, h => by
    cases h
    exact .int b
  | .str b, _, h => by
    cases h
    exact .str b
  | .tup ds, _, h => by
    cases h with
    | tup h1 h2 => exact .tup (same_sqT e h1) (Reps.mono e ds _ h2)
  | .lst ds, _, h => by
    cases h with
    | lst h1 h2 => exact .lst (e _ _ h1) (Reps.mono e ds _ h2)
  | .scr ns, _, h => by
    cases h with
    | scr h1 => exact .scr (same_sqL e h1)
  | .obj c fs, _, h => by
    cases h with
    | obj h1 h2 h3 h4 => exact .obj (e _ _ h1) (RepF.mono e fs _ h2) h3 (h4.up e)
  | .fn x, _, h => by
    cases h with
    | fn h1 => exact .fn h1
  | .exc c fs, _, h => by
    cases h with
    | exc h1 h2 h3 h4 h5 h6 => exact .exc (e _ _ h1) h2 h3 (e _ _ h4) (RepF.mono e fs _ h5) h6
  | .tl n ds, _, h => by
    cases h with
    | tl h1 h2 => exact .tl (e _ _ h1) (Reps.mono e ds _ h2)
  | .xt k ks vs, _, h => by
    cases h with
    | xt h1 h2 h3 => exact .xt (e _ _ h1) (Reps.mono e ks _ h2) (Reps.mono e vs _ h3)
theorem Reps.mono (e : Same F F') : ∀ (ds : List D) (vs : List V), Reps M F vs ds → Reps M F' vs ds
  | [], _, h => by
    cases h
    exact .nil
  | d :: ds, _, h => by
    cases h with
    | cons h1 h2 => exact .cons (Rep.mono e d _ h1) (Reps.mono e ds _ h2)
theorem RepF.mono (e : Same F F') : ∀ (ds : List (Str × D)) (vs : List (Str × V)), RepF M F vs ds → RepF M F' vs ds
  | [], _, h => by
    cases h
    exact .nil
  | (f, d) :: ds, _, h => by
    cases h with
    | cons h1 h2 => exact .cons (Rep.mono e d _ h1) (RepF.mono e ds _ h2)
end
theorem Rep.up (e : Same F F') {d : D} {v : V} (h : Rep M F v d) : Rep M F' v d := Rep.mono e d v h
theorem Reps.up (e : Same F F') {d : List D} {v : List V} (h : Reps M F v d) : Reps M F' v d := Reps.mono e d v h
theorem RepF.up (e : Same F F') {d : List (Str × D)} {v : List (Str × V)} (h : RepF M F v d) : RepF M F' v d := RepF.mono e d v h
theorem Reps.length : ∀ {vs : List V} {ds : List D}, Reps M F vs ds → vs.length = ds.length
  | [], [], _ => rfl
  | _ :: _, _ :: _, .cons _ h => congrArg (· + 1) (Reps.length h)
theorem Reps.get : ∀ {vs : List V} {ds : List D} {i : Nat} {d : D}, Reps M F vs ds → ds[i]? = some d → ∃ v, vs[i]? = some v ∧ Rep M F v d
  | _, _, _, _, .nil, e => by simp at e
  | _, _, 0, _, .cons r _, e => ⟨_, rfl, by
    simp at e
    subst e
    exact r⟩
  | _, _, i + 1, d, .cons _ t, e => by
    obtain ⟨v, h1, h2⟩ := Reps.get (i := i) t (by simpa using e)
    exact ⟨v, by simpa using h1, h2⟩
theorem Reps.append : ∀ {vs ws : List V} {ds es : List D}, Reps M F vs ds → Reps M F ws es → Reps M F (vs ++ ws) (ds ++ es)
  | _, _, _, _, .nil, s => s
  | _, _, _, _, .cons r t, s => .cons r (Reps.append t s)
theorem Reps.take : ∀ {vs : List V} {ds : List D} (n : Nat), Reps M F vs ds → Reps M F (vs.take n) (ds.take n)
  | _, _, 0, _ => .nil
  | _, _, _ + 1, .nil => .nil
  | _, _, n + 1, .cons r t => .cons r (Reps.take n t)
theorem Reps.drop : ∀ {vs : List V} {ds : List D} (n : Nat), Reps M F vs ds → Reps M F (vs.drop n) (ds.drop n)
  | _, _, 0, h => h
  | _, _, _ + 1, .nil => .nil
  | _, _, n + 1, .cons _ t => Reps.drop n t
theorem Reps.set {v : V} {d : D} (r : Rep M F v d) : ∀ {vs : List V} {ds : List D} (i : Nat), Reps M F vs ds → Reps M F (vs.set i v) (ds.set i d)
  | _, _, _, .nil => .nil
  | _, _, 0, .cons _ t => .cons r t
  | _, _, i + 1, .cons q t => .cons q (Reps.set r i t)
theorem Reps.ofInts : ∀ ns : List Int, Reps M F (ns.map V.int) (ns.map D.int)
  | [] => .nil
  | n :: ns => .cons (.int n) (Reps.ofInts ns)
end
inductive OC where
  | ls (ds : List D) | ob (c : Str) (fs : List (Str × D)) | xt (k : Xk) (ks vs : List D)
def OC.D : OC → D
  | .ls ds => .lst ds
  | .ob c fs => .obj c fs
  | .xt k ks vs => .xt k ks vs
inductive OcRep (M : Mx) (F : Hp) : HO → OC → Prop
  | ls {vs : List V} {ds : List D} : Reps M F vs ds → OcRep M F (.lst vs) (.ls ds)
  | ob {dx : Addr} {c : Str} {vs : List (Str × V)} {fs : List (Str × D)} : RepF M F vs fs → ObOk M.K (M.ca c) (fs.map (·.1)) → NdF F c vs → OcRep M F (.ins (M.ca c) dx vs) (.ob c fs)
  | xt {a : Addr × Obj} {k : Xk} {us ws : List V} {ks vs : List D} : Reps M F us ks → Reps M F ws vs → OcRep M F (XtO M k a us ws ks vs) (.xt k ks vs)
theorem OcRep.up {M : Mx} {F F' : Hp} (e : Same F F') {o : HO} {oc : OC} (h : OcRep M F o oc) : OcRep M F' o oc := by
  cases h with
  | ls r => exact .ls (r.up e)
  | ob r k nd => exact .ob (r.up e) k (nd.up e)
  | xt r s => exact .xt (r.up e) (s.up e)
theorem OcRep.nt {M : Mx} {F : Hp} {o : HO} {oc : OC} (h : OcRep M F o oc) : ∀ ps, o ≠ .tbl ps := fun ps z => by
  subst z
  cases h
theorem OcRep.nb {M : Mx} {F : Hp} {o : HO} {oc : OC} (h : OcRep M F o oc) : ∀ n vs, o ≠ bw n vs := fun n vs z => by
  subst z
  cases h
theorem hp_all (n : Nat) (o : Obj) (h : o.data ≠ .freed) : ∃ hh : Heap, ∀ b : Nat, b < n → hh.get? b = some o := by
  refine ⟨{ objs := Array.replicate n o }, fun b hb => ?_⟩
  unfold Heap.get?
  have e : (Array.replicate n o)[b]? = some o := by
    rw [Array.getElem?_replicate, if_pos hb]
  show (match (Array.replicate n o)[b]? with
    | some ⟨_, _, .freed, _⟩ => none
    | x => x) = some o
  rw [e]
  split
  · rename_i z
    cases z
    exact (h rfl).elim
  · rfl
theorem ne_xt_code {M : Mx} {k : Xk} {a : Addr × Obj} {c : Addr} {us ws : List V} {ks vs : List D} {q : Str} : XtO M k a us ws ks vs ≠ LamX.CodeO c q := fun z => by
  have z1 : HO.ext (XtP M.w k a us ws ks vs) = HO.ext fun h => ∃ (oc : Obj) (vs : Array Value) (t : Tok), h.get? c = some oc ∧ oc.data = .fields vs ∧ vs[1]? = some (.str q t) := z
  injection z1 with z2
  obtain ⟨hh, hg⟩ := hp_all ((a.1 : Nat) + (c : Nat) + 1) { cls := .none, data := .fields #[.none, .str q default] } (by intro y; cases y)
  have h1 := congrFun z2 hh
  have h2 : XtP M.w k a us ws ks vs hh := by
    rw [h1]
    exact ⟨_, _, _, hg c (Nat.lt_succ_of_le (Nat.le_add_left _ _)), rfl, rfl⟩
  cases k with
  | dct =>
    obtain ⟨ho, _, _, _, _, _, xs, ys, ep, _, _, _, hd⟩ := h2
    rw [hg a.1 (Nat.lt_succ_of_le (Nat.le_add_right _ _))] at ho
    rw [← Option.some.inj ho] at hd
    cases hd
  | oth n => exact h2
theorem OcRep.nc {M : Mx} {F : Hp} {o : HO} {oc : OC} {c : Addr} {q : Str} (h : OcRep M F o oc) : o ≠ LamX.CodeO c q := fun z => by
  cases h with
  | ls r => cases z
  | ob r k nd => cases z
  | xt r s => exact ne_xt_code z
theorem OcRep.lst {M : Mx} {F : Hp} {o : HO} {ds : List D} (h : OcRep M F o (.ls ds)) : ∃ vs, o = .lst vs ∧ Reps M F vs ds := by
  cases h with
  | ls r => exact ⟨_, rfl, r⟩
inductive SV where
  | no | im (d : D) | ow (io : Bool) (oc : OC)
abbrev SE := List SV
def isOw (ρ : SE) (i : Nat) : Prop := ∃ io oc, ρ[i]? = some (SV.ow io oc)
def Own (σ : L2.St) (ρ : SE) (b : Addr) : Prop := ∃ i : Nat, isOw ρ i ∧ σ[i]? = some (some (V.ref b))
def NoTb (F : Hp) : Prop := ∀ b ps, F b ≠ some (.tbl ps)
theorem NoTb.upd {F : Hp} {a : Addr} {o : HO} (h : NoTb F) (n : ∀ ps, o ≠ .tbl ps) : NoTb (upd F a o) := fun b ps e => by
  by_cases hb : b = a
  · subst hb
    rw [upd_same] at e
    exact n ps (Option.some.inj e)
  · rw [upd_ne hb] at e
    exact h b ps e
structure SubF (F H : Hp) : Prop where
  go : ∀ b o, F b = some o → (n : ∀ n vs, o ≠ bw n vs := by intro _ _ z; cases z) → H b = some o
  bk : ∀ b n vs, F b = some (bw n vs) → H b = some (.lst vs)
theorem SubF.free {F H : Hp} (h : SubF F H) {a : Addr} (n : H a = none) : F a = none := by
  cases e : F a with
  | none => rfl
  | some o =>
    by_cases hb : ∃ n vs, o = bw n vs
    · obtain ⟨m, vs, rfl⟩ := hb
      rw [h.bk a m vs e] at n
      cases n
    · rw [h.go a o e fun m vs z => hb ⟨m, vs, z⟩] at n
      cases n
theorem SubF.trans {F H H' : Hp} (h : SubF F H) (e : Same H H') : SubF F H' := ⟨fun b o z n => e _ _ (h.go b o z n), fun b n vs z => e _ _ (h.bk b n vs z)⟩
theorem SubF.from {F F' H : Hp} (e : Same F F') (h : SubF F' H) : SubF F H := ⟨fun b o z n => h.go b o (e _ _ z) n, fun b n vs z => h.bk b n vs (e _ _ z)⟩
theorem SubF.sqT {K : PySem.W.Frag} {F H : Hp} (h : SubF F H) {a : Addr} {xs : List V} (z : SqT K F a xs) : SqT K H a xs := by
  rcases z with (z | ⟨o, z⟩) | z
  · exact .inl (.inl (h.go _ _ z))
  · exact .inl (.inr ⟨o, h.go _ _ z⟩)
  · exact .inr z
theorem SubF.sqL {K : PySem.W.Frag} {F H : Hp} (h : SubF F H) {a : Addr} {xs : List V} (z : SqL K F a xs) : SqL K H a xs := by
  rcases z with (z | ⟨o, z⟩) | z
  · exact .inl (.inl (h.go _ _ z))
  · exact .inl (.inr ⟨o, h.go _ _ z⟩)
  · exact .inr z
structure Sim (M : Mx) (F H : Hp) (σ : L2.St) (ρ : SE) : Prop where
  sub0 : SubF F H ∧ NoTb F
  tabs : LamX.Tabs M.T H
  len : σ.length = ρ.length
  im : ∀ (i : Nat) d, ρ[i]? = some (SV.im d) → ∃ v, σ[i]? = some (some v) ∧ Rep M F v d
  ow : ∀ (i : Nat) io oc, ρ[i]? = some (SV.ow io oc) → ∃ a o, σ[i]? = some (some (V.ref a)) ∧ H a = some o ∧ F a = none ∧ OcRep M F o oc
  inj : ∀ (i j : Nat) a, isOw ρ i → isOw ρ j → σ[i]? = some (some (V.ref a)) → σ[j]? = some (some (V.ref a)) → i = j
theorem Sim.sub {M : Mx} {F H : Hp} {σ : L2.St} {ρ : SE} (s : Sim M F H σ ρ) : SubF F H := s.sub0.1
theorem Sim.owl {M : Mx} {F H : Hp} {σ : L2.St} {ρ : SE} (s : Sim M F H σ ρ) (i : Nat) (io : Bool) (ds : List D) (h : ρ[i]? = some (SV.ow io (.ls ds))) : ∃ a vs, σ[i]? = some (some (V.ref a)) ∧ H a = some (.lst vs) ∧ F a = none ∧ Reps M F vs ds := by
  obtain ⟨a, o, e, h1, h2, r⟩ := s.ow i io _ h
  obtain ⟨vs, rfl, r2⟩ := r.lst
  exact ⟨a, vs, e, h1, h2, r2⟩
theorem Sim.ntb {M : Mx} {F H : Hp} {σ : L2.St} {ρ : SE} (s : Sim M F H σ ρ) : NoTb F := s.sub0.2
def Fre (H : Hp) (b : Addr) : Prop := ∀ o, H b = some o → ∃ ps, o = .tbl ps
theorem Fre.of {H : Hp} {b : Addr} (e : H b = none) : Fre H b := fun o z => by
  rw [e] at z
  cases z
theorem Fre.no {H : Hp} {b : Addr} {o : HO} (f : Fre H b) (e : H b = some o) (n : ∀ ps, o ≠ .tbl ps) : False := by
  obtain ⟨ps, z⟩ := f o e
  exact n ps z
theorem Fre.lst {H : Hp} {b : Addr} {vs : List V} (f : Fre H b) (e : H b = some (.lst vs)) : False := f.no e fun ps z => by cases z
theorem Fre.back {H : Hp} {b x : Addr} {u : HO} (z : Fre (upd H x u) b) (n : ∀ ps, u ≠ .tbl ps := by intro _ z; cases z) : Fre H b := fun o q => by
  by_cases hb : b = x
  · subst hb
    exact (z.no upd_same n).elim
  · exact z o (by rw [upd_ne hb]; exact q)
theorem Fre.ne {H : Hp} {b x : Addr} {o : HO} (f : Fre H x) (e : H b = some o) (n : ∀ ps, o ≠ .tbl ps) : b ≠ x := fun z => by
  subst z
  exact f.no e n
structure Stp (F H : Hp) (σ : L2.St) (ρ : SE) (F' H' : Hp) (σ' : L2.St) (ρ' : SE) : Prop where
  same : Same F F'
  keep : ∀ b o, H b = some o → ¬ Own σ ρ b → (∀ ps, o ≠ .tbl ps) → H' b = some o
  new : ∀ b, Own σ' ρ' b → Own σ ρ b ∨ Fre H b
  newF : ∀ b o, F' b = some o → F b = some o ∨ Own σ ρ b ∨ Fre H b
  dom : ∀ b, Fre H' b → Fre H b
  io : ∀ (i : Nat) ds, ρ[i]? = some (SV.ow true ds) → σ'[i]? = σ[i]? ∧ ∃ ds', ρ'[i]? = some (SV.ow true ds')
  noio : ∀ (i : Nat) ds, ρ'[i]? = some (SV.ow true ds) → ∃ ds', ρ[i]? = some (SV.ow true ds')
section
variable {M : Mx} {F H F1 H1 F2 H2 F' H' : Hp} {σ σ1 σ2 : L2.St} {ρ ρ1 ρ2 : SE}
theorem Stp.refl (F H : Hp) (σ : L2.St) (ρ : SE) : Stp F H σ ρ F H σ ρ := ⟨Same.refl _, fun _ _ h _ _ => h, fun _ h => .inl h, fun _ _ h => .inl h, fun _ h => h, fun _ ds h => ⟨rfl, ds, h⟩, fun _ ds h => ⟨ds, h⟩⟩
theorem Stp.trans (a : Stp F H σ ρ F1 H1 σ1 ρ1) (b : Stp F1 H1 σ1 ρ1 F2 H2 σ2 ρ2) : Stp F H σ ρ F2 H2 σ2 ρ2 := by
  have back : ∀ x, Fre H1 x ∨ Own σ1 ρ1 x → Own σ ρ x ∨ Fre H x := fun x h => by
    rcases h with h | h
    · exact .inr (a.dom x h)
    · exact a.new x h
  refine ⟨a.same.trans b.same, fun x o h n nt' => ?_, fun x h => ?_, fun x o h => ?_, fun x h => a.dom x (b.dom x h), fun i ds h => ?_, fun i ds h => ?_⟩
  · refine b.keep x o (a.keep x o h n nt') (fun z => ?_) nt'
    rcases a.new x z with z | z
    · exact n z
    · exact z.no h nt'
  · rcases b.new x h with z | z
    · exact a.new x z
    · exact .inr (a.dom x z)
  · rcases b.newF x o h with z | z
    · exact a.newF x o z
    · exact .inr (back x z.symm)
  · obtain ⟨e1, ds1, h1⟩ := a.io i ds h
    obtain ⟨e2, ds2, h2⟩ := b.io i ds1 h1
    exact ⟨e2.trans e1, ds2, h2⟩
  · obtain ⟨ds1, h1⟩ := b.noio i ds h
    exact a.noio i ds1 h1
theorem SubF.both {F H : Hp} (h : SubF F H) {a : Addr} {o : HO} (nb : ∀ n vs, o ≠ bw n vs := by intro _ _ z; cases z) : SubF (upd F a o) (upd H a o) := by
  refine ⟨fun b u e n => ?_, fun b n vs e => ?_⟩
  · by_cases hb : b = a
    · subst hb
      rw [upd_same] at e ⊢
      exact e
    · rw [upd_ne hb] at e ⊢
      exact h.go _ _ e n
  · by_cases hb : b = a
    · subst hb
      rw [upd_same] at e
      exact (nb n vs (Option.some.inj e)).elim
    · rw [upd_ne hb] at e ⊢
      exact h.bk _ _ _ e
theorem SubF.put {F H : Hp} (h : SubF F H) {a : Addr} {o : HO} (ho : H a = some o) (nb : ∀ n vs, o ≠ bw n vs) : SubF (upd F a o) H := by
  refine ⟨fun b u e n => ?_, fun b n vs e => ?_⟩
  · by_cases hb : b = a
    · subst hb
      rw [upd_same] at e
      rw [← e]
      exact ho
    · rw [upd_ne hb] at e
      exact h.go _ _ e n
  · by_cases hb : b = a
    · subst hb
      rw [upd_same] at e
      exact (nb n vs (Option.some.inj e)).elim
    · rw [upd_ne hb] at e
      exact h.bk _ _ _ e
structure Alc (F H F' H' : Hp) : Prop where
  same : Same F F'
  sameH : Same H H'
  sub : SubF F' H'
  newF : ∀ b o, F' b = some o → F b = some o ∨ H b = none
  ntb : NoTb F → NoTb F'
theorem Alc.refl (h : SubF F H) : Alc F H F H := ⟨Same.refl _, Same.refl _, h, fun _ _ h => .inl h, id⟩
theorem Alc.trans (a : Alc F H F1 H1) (b : Alc F1 H1 F2 H2) : Alc F H F2 H2 := ⟨a.same.trans b.same, a.sameH.trans b.sameH, b.sub, fun x o h => by
  rcases b.newF x o h with z | z
  · exact a.newF x o z
  · exact .inr (a.sameH.free z), fun z => b.ntb (a.ntb z)⟩
theorem same_upd {a : Addr} {o : HO} (n : H a = none) : Same H (upd H a o) := fun b u h => by
  rw [upd_ne (ne_of_none h n)]
  exact h
theorem Alc.new {a : Addr} {o : HO} (h : SubF F H) (n : H a = none) : Alc F H F (upd H a o) := ⟨Same.refl _, same_upd n, h.trans (same_upd n), fun _ _ h => .inl h, id⟩
theorem Alc.newF' {a : Addr} {o : HO} (h : SubF F H) (n : H a = none) (nt : ∀ ps, o ≠ .tbl ps := by intro _ z; cases z) (nb : ∀ n vs, o ≠ bw n vs := by intro _ _ z; cases z) : Alc F H (upd F a o) (upd H a o) := by
  have nF : F a = none := h.free n
  refine ⟨same_upd nF, same_upd n, h.both nb, fun b u e => ?_, fun z => z.upd nt⟩
  · by_cases hb : b = a
    · subst hb
      exact .inr n
    · rw [upd_ne hb] at e
      exact .inl e
theorem Alc.stp (a : Alc F H F' H') (σ : L2.St) (ρ : SE) : Stp F H σ ρ F' H' σ ρ :=
  ⟨a.same, fun b o h _ _ => a.sameH b o h, fun _ h => .inl h, fun b o h => (a.newF b o h).elim .inl fun z => .inr (.inr (.of z)), fun b h o q => h o (a.sameH _ _ q), fun _ ds h => ⟨rfl, ds, h⟩, fun _ ds h => ⟨ds, h⟩⟩
theorem Alc.free {a : Addr} {o : HO} (x : Alc F H F' H') (hF : F a = none) (hH : H a = some o) : F' a = none := by
  cases e : F' a with
  | none => rfl
  | some u =>
    rcases x.newF a u e with z | z
    · rw [hF] at z
      cases z
    · rw [hH] at z
      cases z
theorem Sim.alc (s : Sim M F H σ ρ) (a : Alc F H F' H') : Sim M F' H' σ ρ :=
  ⟨⟨a.sub, a.ntb s.ntb⟩, s.tabs.ext a.sameH, s.len, fun i d h => by
    obtain ⟨v, e, r⟩ := s.im i d h
    exact ⟨v, e, r.up a.same⟩, fun i io ds h => by
    obtain ⟨b, o, e, h1, h2, r⟩ := s.ow i io ds h
    exact ⟨b, o, e, a.sameH _ _ h1, a.free h2 h1, r.up a.same⟩, s.inj⟩
theorem Sim.ownF (s : Sim M F H σ ρ) {b : Addr} (h : Own σ ρ b) : F b = none ∧ ∃ o, H b = some o ∧ (∀ ps, o ≠ .tbl ps) := by
  obtain ⟨i, ⟨io, ds, e⟩, e2⟩ := h
  obtain ⟨a, o, e3, h1, h2, r⟩ := s.ow i io ds e
  rw [e2] at e3
  cases e3
  exact ⟨h2, o, h1, r.nt⟩
end
inductive RV where
  | im (d : D) | ow (oc : OC) | bo (i : Nat) | ot (ds : List D) (d : D) | bt (i : Nat) (d : D)
structure Exc where
  cls : Str
  fs : List (Str × D)
inductive R (α : Type) where
  | bad | ok (a : α) (ρ : SE) | ex (e : Exc) (ρ : SE)
abbrev DM (α : Type) := SE → R α
def R.bind {α β : Type} (r : R α) (f : α → SE → R β) : R β := match r with
  | .bad => .bad
  | .ok a ρ => f a ρ
  | .ex e ρ => .ex e ρ
def RvOk (M : Mx) (H0 F H : Hp) (σ : L2.St) (ρ : SE) (v : V) : RV → Prop
  | .im d => Rep M F v d
  | .ow oc => ∃ a o, v = .ref a ∧ H a = some o ∧ F a = none ∧ OcRep M F o oc ∧ ¬ Own σ ρ a ∧ Fre H0 a
  | .bo i => isOw ρ i ∧ σ[i]? = some (some v)
  | .bt i d => ∃ (T a : Addr) (x : V), v = .ref T ∧ H T = some (.tup [.ref a, x]) ∧ isOw ρ i ∧ σ[i]? = some (some (.ref a)) ∧ Rep M F x d
  | .ot ds d => ∃ (T a : Addr) (vs : List V) (x : V), v = .ref T ∧ H T = some (.tup [.ref a, x]) ∧ H a = some (.lst vs) ∧ F a = none ∧ Reps M F vs ds ∧ Rep M F x d ∧ ¬ Own σ ρ a ∧ Fre H0 a
def ExcOk (M : Mx) (F H : Hp) (cls : Value) (d : Option Addr) (e : Exc) : Prop :=
  cls = .ref (M.ca e.cls) ∧ ∃ dx vs, d = some dx ∧ F dx = some (.xd vs) ∧ RepF M F vs e.fs ∧ XcOk M.K (M.ca e.cls) (e.fs.map (·.1))
abbrev WX := Value → Option Addr → L2.St → Hp → Prop
def Post (M : Mx) (W : WX) (σ : L2.St) (ρ : SE) (F H : Hp) (r : R RV) (Q : VK) : Prop := match r with
  | .bad => False
  | .ok r ρ' => ∀ F' H' v, Stp F H σ ρ F' H' σ ρ' → Sim M F' H' σ ρ' → RvOk M H F' H' σ ρ' v r → Q v H'
  | .ex e ρ' => ∀ F' H' cls d, Stp F H σ ρ F' H' σ ρ' → Sim M F' H' σ ρ' → ExcOk M F' H' cls d e → W cls d σ H'
def PostT (M : Mx) (W : WX) (σ : L2.St) (ρ : SE) (F H : Hp) (r : R Bool) (Q : Bool → Hp → Prop) : Prop := match r with
  | .bad => False
  | .ok b ρ' => ∀ F' H', Stp F H σ ρ F' H' σ ρ' → Sim M F' H' σ ρ' → Q b H'
  | .ex e ρ' => ∀ F' H' cls d, Stp F H σ ρ F' H' σ ρ' → Sim M F' H' σ ρ' → ExcOk M F' H' cls d e → W cls d σ H'
inductive AV where
  | d (d : D) | io (i : Nat)
def AvOk (M : Mx) (F : Hp) (σ : L2.St) (ρ : SE) (v : V) : AV → Prop
  | .d d => Rep M F v d
  | .io i => isOw ρ i ∧ σ[i]? = some (some v)
inductive AvsOk (M : Mx) (F : Hp) (σ : L2.St) (ρ : SE) : List V → List AV → Prop
  | nil : AvsOk M F σ ρ [] []
  | cons {v : V} {vs : List V} {a : AV} {as : List AV} : AvOk M F σ ρ v a → AvsOk M F σ ρ vs as → AvsOk M F σ ρ (v :: vs) (a :: as)
def PostA (M : Mx) (W : WX) (σ : L2.St) (ρ : SE) (F H : Hp) (r : R (List AV)) (Q : List V → Hp → Prop) : Prop := match r with
  | .bad => False
  | .ok as ρ' => ∀ F' H' vs, Stp F H σ ρ F' H' σ ρ' → Sim M F' H' σ ρ' → AvsOk M F' σ ρ' vs as → Q vs H'
  | .ex e ρ' => ∀ F' H' cls d, Stp F H σ ρ F' H' σ ρ' → Sim M F' H' σ ρ' → ExcOk M F' H' cls d e → W cls d σ H'
inductive Fl where
  | nx | bk | ct | rt (r : RV)
def PostS (M : Mx) (W : WX) (σ : L2.St) (ρ : SE) (F H : Hp) (r : R Fl) (E : Ends) : Prop := match r with
  | .bad => False
  | .ok .nx ρ' => ∀ F' H' σ', Stp F H σ ρ F' H' σ' ρ' → Sim M F' H' σ' ρ' → E.nx σ' H'
  | .ok .bk ρ' => ∀ F' H' σ', Stp F H σ ρ F' H' σ' ρ' → Sim M F' H' σ' ρ' → E.bk σ' H'
  | .ok .ct ρ' => ∀ F' H' σ', Stp F H σ ρ F' H' σ' ρ' → Sim M F' H' σ' ρ' → E.ct σ' H'
  | .ok (.rt r) ρ' => ∀ F' H' σ' v, Stp F H σ ρ F' H' σ' ρ' → Sim M F' H' σ' ρ' → RvOk M H F' H' σ' ρ' v r → E.rt v H'
  | .ex e ρ' => ∀ F' H' σ' cls d, Stp F H σ ρ F' H' σ' ρ' → Sim M F' H' σ' ρ' → ExcOk M F' H' cls d e → W cls d σ' H'
def DE (X : Cx) (M : Mx) (W : WX) (e : Expr) (m : DM RV) : Prop := ∃ te, PE X e te ∧ ∀ σ H F ρ Q, Sim M F H σ ρ → Post M W σ ρ F H (m ρ) Q → te σ H Q
def DT (X : Cx) (M : Mx) (W : WX) (e : Expr) (m : DM Bool) : Prop := ∃ te, PT X e te ∧ ∀ σ H F ρ Q, Sim M F H σ ρ → PostT M W σ ρ F H (m ρ) Q → te σ H Q
def DW (X : Cx) (M : Mx) (W : WX) (e : Expr) (m : DM Bool) : Prop := ∃ te, PW X e te ∧ ∀ σ H F ρ Q, Sim M F H σ ρ → PostT M W σ ρ F H (m ρ) Q → te σ H Q
def DA (X : Cx) (M : Mx) (W : WX) (es : List Expr) (m : DM (List AV)) : Prop := ∃ t, PA X es t ∧ ∀ σ H F ρ Q, Sim M F H σ ρ → PostA M W σ ρ F H (m ρ) Q → t σ H Q
def DS (X : Cx) (M : Mx) (W : WX) (st : Stmt) (m : DM Fl) : Prop := ∃ t, PS X st t ∧ ∀ σ H F ρ E, Sim M F H σ ρ → PostS M W σ ρ F H (m ρ) E → t E σ H
def DSs (X : Cx) (M : Mx) (W : WX) (st : List Stmt) (m : DM Fl) : Prop := ∃ t, PSs X st t ∧ ∀ σ H F ρ E, Sim M F H σ ρ → PostS M W σ ρ F H (m ρ) E → t E σ H
end DL

/- part -/
set_option Elab.async false
set_option linter.all false
set_option maxRecDepth 100000
set_option maxHeartbeats 4000000
namespace DL
open PySem PySem.Spec PyProof.Rows L2
def unl : D → D
  | .tl _ ds => .lst ds
  | d => d
def look (ρ : SE) : RV → Option D
  | .im d => some (unl d)
  | .ow oc => some oc.D
  | .bo i => match ρ[i]? with
    | some (.ow _ oc) => some oc.D
    | _ => none
  | .ot _ _ => none
  | .bt _ _ => none
def Vw (M : Mx) (F H : Hp) (v : V) : D → Prop
  | .lst ds => ∃ a vs, v = .ref a ∧ H a = some (.lst vs) ∧ Reps M F vs ds
  | .obj c fs => ∃ a dx vs, v = .ref a ∧ H a = some (.ins (M.ca c) dx vs) ∧ RepF M F vs fs ∧ ObOk M.K (M.ca c) (fs.map (·.1)) ∧ NdF F c vs
  | .xt k ks ds => ∃ a a' us ws, v = .ref a ∧ H a = some (XtO M k a' us ws ks ds) ∧ Reps M F us ks ∧ Reps M F ws ds
  | d => Rep M F v d
section
variable {M : Mx} {W : WX} {F H F1 H1 F2 H2 F' H' H0 : Hp} {σ σ1 σ2 : L2.St} {ρ ρ1 ρ2 : SE}
theorem Vw.of (s : SubF F H) {v : V} {d : D} (h : Rep M F v d) : Vw M F H v (unl d) := by
  cases d with
  | lst ds =>
    cases h with
    | lst h1 h2 => exact ⟨_, _, rfl, s.go _ _ h1, h2⟩
  | obj c fs =>
    cases h with
    | obj h1 h2 h3 h4 => exact ⟨_, _, _, rfl, s.go _ _ h1, h2, h3, h4⟩
  | tl n ds =>
    cases h with
    | tl h1 h2 => exact ⟨_, _, rfl, s.bk _ _ _ h1, h2⟩
  | xt k ks ds =>
    cases h with
    | xt h1 h2 h3 => exact ⟨_, _, _, _, rfl, s.go _ _ h1, h2, h3⟩
  | _ => exact h
theorem Vw.ofOc {v : V} {a : Addr} {o : HO} {oc : OC} (e : v = .ref a) (h : H a = some o) (r : OcRep M F o oc) : Vw M F H v oc.D := by
  cases r with
  | ls r => exact ⟨_, _, e, h, r⟩
  | ob r k nd => exact ⟨_, _, _, e, h, r, k, nd⟩
  | xt r s => exact ⟨_, _, _, _, e, h, r, s⟩
theorem Vw.alc (x : Alc F H F' H') {v : V} {d : D} (h : Vw M F H v d) : Vw M F' H' v d := by
  cases d with
  | lst ds =>
    obtain ⟨a, vs, e, h1, h2⟩ := h
    exact ⟨a, vs, e, x.sameH _ _ h1, h2.up x.same⟩
  | obj c fs =>
    obtain ⟨a, dx, vs, e, h1, h2, h3, h4⟩ := h
    exact ⟨a, dx, vs, e, x.sameH _ _ h1, h2.up x.same, h3, h4.up x.same⟩
  | xt k ks ds =>
    obtain ⟨a, a', us, ws, e, h1, h2, h3⟩ := h
    exact ⟨a, a', us, ws, e, x.sameH _ _ h1, h2.up x.same, h3.up x.same⟩
  | _ => exact Rep.up x.same h
theorem RvOk.view {v : V} {r : RV} {d : D} (h : RvOk M H0 F1 H1 σ ρ1 v r) (st : Stp F1 H1 σ ρ1 F2 H2 σ ρ2) (sm : Sim M F2 H2 σ ρ2) (hl : look ρ2 r = some d) : Vw M F2 H2 v d := by
  cases r with
  | im e =>
    cases hl
    exact Vw.of sm.sub (Rep.up st.same h)
  | ow oc =>
    cases hl
    obtain ⟨a, o, e, h1, h2, h3, h4, h5⟩ := h
    exact Vw.ofOc e (st.keep _ _ h1 h4 h3.nt) (h3.up st.same)
  | ot ds d => cases hl
  | bt i d => cases hl
  | bo i =>
    obtain ⟨_, h2⟩ := h
    have hl : (match ρ2[i]? with
      | some (.ow _ oc) => some oc.D
      | _ => none) = some d := hl
    split at hl
    · rename_i io oc e
      cases hl
      obtain ⟨a, o, e1, e2, e3, e4⟩ := sm.ow i io oc e
      rw [h2] at e1
      cases e1
      exact Vw.ofOc rfl e2 e4
    · cases hl
theorem RvOk.view0 {v : V} {r : RV} {d : D} (h : RvOk M H0 F1 H1 σ ρ1 v r) (sm : Sim M F1 H1 σ ρ1) (hl : look ρ1 r = some d) : Vw M F1 H1 v d := h.view (Stp.refl _ _ _ _) sm hl
def RvNew (M : Mx) (H F' H' : Hp) (v : V) : RV → Prop
  | .im d => Rep M F' v d
  | .ow oc => ∃ a o, v = .ref a ∧ H' a = some o ∧ F' a = none ∧ OcRep M F' o oc ∧ H a = none
  | .bo _ => False
  | .ot _ _ => False
  | .bt _ _ => False
theorem RvNew.ok {v : V} {r : RV} (h : RvNew M H1 F' H' v r) (sm : Sim M F1 H1 σ ρ1) (dom : ∀ b, Fre H1 b → Fre H0 b) : RvOk M H0 F' H' σ ρ1 v r := by
  cases r with
  | im d => exact h
  | ow ds =>
    obtain ⟨a, vs, e, h1, h2, h3, h4⟩ := h
    refine ⟨a, vs, e, h1, h2, h3, fun z => ?_, dom a (.of h4)⟩
    obtain ⟨_, o, e2, _⟩ := sm.ownF z
    rw [h4] at e2
    cases e2
  | bo i => exact h.elim
  | ot ds d => exact h.elim
  | bt i d => exact h.elim
theorem RvNew.int {i : Int} : RvNew M H F' H' (.int i) (.im (.int i)) := Rep.int i
theorem RvNew.bl {i : Bool} : RvNew M H F' H' (.bl i) (.im (.bl i)) := Rep.bl i
theorem RvNew.str {i : Str} : RvNew M H F' H' (.str i) (.im (.str i)) := Rep.str i
def ofO {α : Type} (o : Option α) (ρ : SE) : R α := match o with
  | none => .bad
  | some a => .ok a ρ
variable {X : Cx}
def dVar (i : Nat) : DM RV := fun ρ => match ρ[i]? with
  | some (.im d) => .ok (.im d) ρ
  | some (.ow _ _) => .ok (.bo i) ρ
  | _ => .bad
theorem de_var (i : Nat) {x : Str} {pos : Pos} (hN : X.N[i]? = some x := by rfl) (hv : Vis X.env.scope x := by first | exact Or.inl rfl | exact Or.inr (Or.inl rfl) | exact Or.inr (Or.inr rfl)) (hd : (x == ("__debug__" : Str)) = false := by decide)
    (hcd : (x == ("__classdict__" : Str)) = false := by decide) : DE X M W (.Name x pos) (dVar i) := by
  refine ⟨_, pe_var hN hv hd hcd, fun σ H F ρ Q sm h => ?_⟩
  unfold dVar at h
  split at h
  · rename_i d e
    obtain ⟨v, e1, r⟩ := sm.im i d e
    exact ⟨v, e1, h F H v (Stp.refl _ _ _ _) sm r⟩
  · rename_i io ds e
    obtain ⟨a, vs, e1, _⟩ := sm.ow i io ds e
    exact ⟨_, e1, h F H _ (Stp.refl _ _ _ _) sm ⟨⟨io, ds, e⟩, e1⟩⟩
  · exact h.elim
def dC (d : D) : DM RV := fun ρ => .ok (.im d) ρ
theorem de_tC {e : Expr} {v : V} {d : D} (he : PE X e (tC v)) (r : ∀ F, Rep M F v d) : DE X M W e (dC d) :=
  ⟨_, he, fun σ H F ρ Q sm h => h F H v (Stp.refl _ _ _ _) sm (r F)⟩
theorem de_int {i j pos} : DE X M W (.Constant (.int i) j pos) (dC (.int i)) := de_tC pe_int fun _ => .int i
theorem de_bl {i j pos} : DE X M W (.Constant (.bool i) j pos) (dC (.bl i)) := de_tC pe_bl fun _ => .bl i
theorem de_str {i j pos} : DE X M W (.Constant (.str i) j pos) (dC (.str i)) := de_tC pe_str fun _ => .str i
theorem de_non {j pos} : DE X M W (.Constant .none j pos) (dC .non) := de_tC pe_non fun _ => .non
theorem de_glob {x : Str} {v : V} {u : Value} {d : D} {pos : Pos} (hg : Gl X x) (hm : X.mg x = some u) (r : RelV v u) (rd : ∀ F, Rep M F v d) (hd : (x == ("__debug__" : Str)) = false := by decide) : DE X M W (.Name x pos) (dC d) :=
  de_tC (pe_glob hg hm r hd) rd
def Op2 (M : Mx) (r : R2) (g : D → D → Option RV) : Prop := ∀ (F H : Hp) (x y : V) (d e : D) (rv : RV) (Q : VK), SubF F H → Vw M F H x d → Vw M F H y e → g d e = some rv → (∀ F' H' v, Alc F H F' H' → RvNew M H F' H' v rv → Q v H') → r x y H Q
def Op1 (M : Mx) (r : V → Hp → VK → Prop) (g : D → Option RV) : Prop := ∀ (F H : Hp) (x : V) (d : D) (rv : RV) (Q : VK), SubF F H → Vw M F H x d → g d = some rv → (∀ F' H' v, Alc F H F' H' → RvNew M H F' H' v rv → Q v H') → r x H Q
def dOp2 (g : D → D → Option RV) (ma mb : DM RV) : DM RV := fun ρ => (ma ρ).bind fun x ρ1 => (mb ρ1).bind fun y ρ2 => ofO ((look ρ2 x).bind fun d => (look ρ2 y).bind fun e => g d e) ρ2
def dOp1 (g : D → Option RV) (ma : DM RV) : DM RV := fun ρ => (ma ρ).bind fun x ρ1 => ofO ((look ρ1 x).bind g) ρ1
theorem bind_some2 {α β γ : Type} {x : Option α} {y : Option β} {g : α → β → Option γ} {r : γ} (h : (x.bind fun d => y.bind fun e => g d e) = some r) : ∃ d e, x = some d ∧ y = some e ∧ g d e = some r := by
  cases x with
  | none => cases h
  | some d =>
    cases y with
    | none => cases h
    | some e => exact ⟨d, e, rfl, rfl, h⟩
theorem bind_some1 {α γ : Type} {x : Option α} {g : α → Option γ} {r : γ} (h : x.bind g = some r) : ∃ d, x = some d ∧ g d = some r := by
  cases x with
  | none => cases h
  | some d => exact ⟨d, rfl, h⟩
theorem Post.step {α : Type} {ma : R α} {Q : α → Prop} {P : Prop} (hb : ma = .bad → P) (ho : ∀ r ρ1, ma = .ok r ρ1 → P) (hx : ∀ e ρ1, ma = .ex e ρ1 → P) : P := by
  cases e : ma with
  | bad => exact hb e
  | ok r ρ1 => exact ho r ρ1 e
  | ex x ρ1 => exact hx x ρ1 e
theorem Post.go {r : R RV} {Q : VK} {g : RV → SE → R RV} (h : Post M W σ ρ F H (r.bind g) Q) {Q' : VK}
    (k : ∀ a ρ1 F1 H1 v, r = .ok a ρ1 → Stp F H σ ρ F1 H1 σ ρ1 → Sim M F1 H1 σ ρ1 → RvOk M H F1 H1 σ ρ1 v a → Post M W σ ρ F H (g a ρ1) Q → Q' v H1) : Post M W σ ρ F H r Q' := by
  cases r with
  | bad => exact h
  | ok a ρ1 => exact fun F1 H1 v st sm ok => k a ρ1 F1 H1 v rfl st sm ok h
  | ex e ρ1 => exact h
theorem Post.from {r : R RV} {Q : VK} (st : Stp F H σ ρ F1 H1 σ ρ1) (h : Post M W σ ρ F H r Q) : Post M W σ ρ1 F1 H1 r Q := by
  cases r with
  | bad => exact h
  | ok a ρ2 =>
    refine fun F2 H2 v st2 sm ok => h F2 H2 v (st.trans st2) sm ?_
    cases a with
    | im d => exact ok
    | ow ds =>
      obtain ⟨a, vs, e, h1, h2, h3, h4, h5⟩ := ok
      exact ⟨a, vs, e, h1, h2, h3, h4, st.dom _ h5⟩
    | bo i => exact ok
    | bt i d => exact ok
    | ot ds d =>
      obtain ⟨T, a, vs, x, e, h1, h2, h3, h4, h5, h6, h7⟩ := ok
      exact ⟨T, a, vs, x, e, h1, h2, h3, h4, h5, h6, st.dom _ h7⟩
  | ex e ρ2 => exact fun F2 H2 cls d st2 sm ok => h F2 H2 cls d (st.trans st2) sm ok
theorem Post.fin' {o : Option RV} {Q : VK} (h : Post M W σ ρ F H (ofO o ρ1) Q) (st : Stp F H σ ρ F1 H1 σ ρ1) (sm : Sim M F1 H1 σ ρ1) : ∃ rv, o = some rv ∧ ∀ F' H' v, Alc F1 H1 F' H' → RvNew M H1 F' H' v rv → Q v H' := by
  cases o with
  | none => exact h.elim
  | some rv => exact ⟨rv, rfl, fun F' H' v al nw => h F' H' v (st.trans (al.stp _ _)) (sm.alc al) (nw.ok sm st.dom)⟩
theorem de_tOp {a b e : Expr} {ma mb : DM RV} {r : R2} {g : D → D → Option RV} (ha : DE X M W a ma) (hb : DE X M W b mb) (o : Op2 M r g) (he : ∀ ta tb, PE X a ta → PE X b tb → PE X e (tOp r ta tb)) : DE X M W e (dOp2 g ma mb) := by
  obtain ⟨ta, pa, qa⟩ := ha
  obtain ⟨tb, pb, qb⟩ := hb
  refine ⟨_, he ta tb pa pb, fun σ H F ρ Q sm h => ?_⟩
  refine qa σ H F ρ _ sm (Post.go h fun x ρ1 F1 H1 v _ st1 sm1 ok1 h1 => ?_)
  refine qb σ H1 F1 ρ1 _ sm1 (Post.go (Post.from st1 h1) fun y ρ2 F2 H2 u _ st2 sm2 ok2 h2 => ?_)
  obtain ⟨rv, e, k⟩ := Post.fin' h2 st2 sm2
  obtain ⟨d, e', l1, l2, hg⟩ := bind_some2 e
  exact o F2 H2 v u d e' rv Q sm2.sub (ok1.view st2 sm2 l1) (ok2.view0 sm2 l2) hg k
theorem de_tUn {a e : Expr} {ma : DM RV} {r : V → Hp → VK → Prop} {g : D → Option RV} (ha : DE X M W a ma) (o : Op1 M r g) (he : ∀ ta, PE X a ta → PE X e (tUn r ta)) : DE X M W e (dOp1 g ma) := by
  obtain ⟨ta, pa, qa⟩ := ha
  refine ⟨_, he ta pa, fun σ H F ρ Q sm h => ?_⟩
  refine qa σ H F ρ _ sm (Post.go h fun x ρ1 F1 H1 v _ st1 sm1 ok1 h1 => ?_)
  obtain ⟨rv, e, k⟩ := Post.fin' h1 st1 sm1
  obtain ⟨d, l1, hg⟩ := bind_some1 e
  exact o F1 H1 v d rv Q sm1.sub (ok1.view0 sm1 l1) hg k
end
end DL

/- part -/
set_option Elab.async false
set_option linter.all false
set_option maxRecDepth 100000
set_option maxHeartbeats 4000000
namespace DL
open PySem PySem.Spec PyProof.Rows L2
section
variable {M : Mx} {W : WX} {X : Cx} {F H F' H' : Hp}
theorem szle {n : Nat} (h : n ≤ 1000000) : n ≤ sizeLine := by
  rw [sizeLine_eq]
  omega
theorem szlt {n : Nat} (h : n < 1000000) : n < sizeLine := by
  rw [sizeLine_eq]
  omega
def cMul (i j : Int) : Bool := decide (i.natAbs.log2 + j.natAbs.log2 < 1000000)
def cDiv (j : Int) : Bool := decide (j ≠ 0 ∧ j.natAbs.log2 < 9000)
def cPow (i j : Int) : Bool := decide (0 ≤ j ∧ j ≤ 1000000 ∧ i.natAbs < 18446744073709551616)
def addD : D → D → Option RV
  | .int i, .int j => some (.im (.int (i + j)))
  | .str a, .str b => if a.length + b.length ≤ 1000000 then some (.im (.str (a ++ b))) else none
  | .lst a, .lst b => if a.length + b.length ≤ 1000000 then some (.ow (.ls (a ++ b))) else none
  | .tup a, .tup b => if a.length + b.length ≤ 1000000 then some (.im (.tup (a ++ b))) else none
  | _, _ => none
def subD : D → D → Option RV
  | .int i, .int j => some (.im (.int (i - j)))
  | _, _ => none
def mulD : D → D → Option RV
  | .int i, .int j => if cMul i j = true then some (.im (.int (i * j))) else none
  | _, _ => none
def fdivD : D → D → Option RV
  | .int i, .int j => if cDiv j = true then some (.im (.int (i.fdiv j))) else none
  | _, _ => none
def modD : D → D → Option RV
  | .int i, .int j => if j ≠ 0 then some (.im (.int (i.fmod j))) else none
  | _, _ => none
def powD : D → D → Option RV
  | .int i, .int j => if cPow i j = true then some (.im (.int (i ^ j.toNat))) else none
  | _, _ => none
theorem op_fdivG : OpR X (binaryOp .FloorDiv) (rI (fun _ j => j ≠ 0 ∧ j.natAbs.log2 < 9000) fun i j => .int (i.fdiv j)) := opI fun _ _ _ _ _ _ _ hc q => floordiv_int hc.1 q (.inl (PyProof.noPylong_of_log2 hc.2))
theorem some_ite {α : Type} {c : Prop} [Decidable c] {a r : α} (h : (if c then some a else none) = some r) : c ∧ a = r := by
  by_cases hc : c
  · rw [if_pos hc] at h
    exact ⟨hc, Option.some.inj h⟩
  · rw [if_neg hc] at h
    cases h
theorem vw_int {v : V} {i : Int} (h : Vw M F H v (.int i)) : v = .int i := by
  cases h
  rfl
theorem vw_bl {v : V} {i : Bool} (h : Vw M F H v (.bl i)) : v = .bl i := by
  cases h
  rfl
theorem vw_str {v : V} {i : Str} (h : Vw M F H v (.str i)) : v = .str i := by
  cases h
  rfl
theorem vw_non {v : V} (h : Vw M F H v .non) : v = .non := by
  cases h
  rfl
theorem vw_tup {v : V} {ds : List D} (h : Vw M F H v (.tup ds)) : ∃ a vs, v = .ref a ∧ SqT M.K F a vs ∧ Reps M F vs ds := by
  cases h with
  | tup h1 h2 => exact ⟨_, _, rfl, h1, h2⟩
theorem new_lst (sub : SubF F H) {vs : List V} {ds : List D} (r : Reps M F vs ds) {Q : VK} (k : ∀ F' H' v, Alc F H F' H' → RvNew M H F' H' v (.ow (.ls ds)) → Q v H') {p : Addr} (hp : H p = none) : Q (.ref p) (upd H p (.lst vs)) :=
  k F _ _ (Alc.new sub hp) ⟨p, _, rfl, upd_same, sub.free hp, .ls r, hp⟩
theorem new_tup (sub : SubF F H) {vs : List V} {ds : List D} (r : Reps M F vs ds) {Q : VK} (k : ∀ F' H' v, Alc F H F' H' → RvNew M H F' H' v (.im (.tup ds)) → Q v H') {p : Addr} (hp : H p = none) : Q (.ref p) (upd H p (.tup vs)) :=
  k _ _ _ (Alc.newF' sub hp) (Rep.tup (.inl (.inl upd_same)) (r.up (same_upd (sub.free hp))))
abbrev rAddA (K : PySem.W.Frag) : R2 := fun x y H Q => rI0 (fun i j => .int (i + j)) x y H Q ∨ ((∃ i j, x = .str i ∧ y = .str j ∧ i.length + j.length ≤ sizeLine ∧ Q (.str (i ++ j)) H) ∨ (rCat x y H Q ∨ rCatA K x y H Q))
theorem op_addA : OpR X (binaryOp .Add) (rAddA X.K) := op_add.or (op_add_str.or (op_cat.or op_catA))
theorem o2_add : Op2 M (rAddA M.K) addD := by
  intro F H x y d e rv Q sub hx hy hg k
  unfold addD at hg
  split at hg
  · cases hg
    rw [vw_int hx, vw_int hy]
    exact .inl ⟨_, _, rfl, rfl, k _ _ _ (Alc.refl sub) RvNew.int⟩
  · obtain ⟨hc, e⟩ := some_ite hg
    subst e
    rw [vw_str hx, vw_str hy]
    exact .inr (.inl ⟨_, _, rfl, rfl, szle hc, k _ _ _ (Alc.refl sub) RvNew.str⟩)
  · obtain ⟨hc, e⟩ := some_ite hg
    subst e
    obtain ⟨a, vs, e1, h1, r1⟩ := hx
    obtain ⟨b, ws, e2, h2, r2⟩ := hy
    exact .inr (.inr (.inl ⟨a, b, vs, ws, e1, e2, h1, h2, by rw [r1.length, r2.length]; exact szle hc, fun p hp => new_lst sub (r1.append r2) k hp⟩))
  · obtain ⟨hc, e⟩ := some_ite hg
    subst e
    obtain ⟨a, vs, e1, h1, r1⟩ := vw_tup hx
    obtain ⟨b, ws, e2, h2, r2⟩ := vw_tup hy
    subst e1 e2
    refine .inr (.inr (.inr ⟨a, b, vs, ws, rfl, rfl, sub.sqT h1, sub.sqT h2, by rw [r1.length, r2.length]; exact szle hc, fun e => ?_, fun _ e => ?_, fun _ _ p hp => new_tup sub (r1.append r2) k hp⟩))
    · refine k _ _ _ (Alc.refl sub) (Rep.tup h2 ?_)
      have l := r1.length
      rw [e] at l
      cases r1
      · exact r2
      · cases l
    · refine k _ _ _ (Alc.refl sub) (Rep.tup h1 ?_)
      have l := r2.length
      rw [e] at l
      cases r2
      · rw [List.append_nil]
        exact r1
      · cases l
  · cases hg
theorem o2_sub : Op2 M (rI0 fun i j => .int (i - j)) subD := by
  intro F H x y d e rv Q sub hx hy hg k
  unfold subD at hg
  split at hg
  · cases hg
    rw [vw_int hx, vw_int hy]
    exact ⟨_, _, rfl, rfl, k _ _ _ (Alc.refl sub) RvNew.int⟩
  · cases hg
theorem o2_mul : Op2 M (rI CMulW fun i j => .int (i * j)) mulD := by
  intro F H x y d e rv Q sub hx hy hg k
  unfold mulD at hg
  split at hg
  · obtain ⟨hc, e⟩ := some_ite hg
    subst e
    rw [vw_int hx, vw_int hy]
    have hc' : CMulW _ _ := of_decide_eq_true (p := _ + _ < 1000000) hc
    exact ⟨_, _, rfl, rfl, hc', k _ _ _ (Alc.refl sub) RvNew.int⟩
  · cases hg
theorem o2_fdiv : Op2 M (rI (fun _ j => j ≠ 0 ∧ j.natAbs.log2 < 9000) fun i j => .int (i.fdiv j)) fdivD := by
  intro F H x y d e rv Q sub hx hy hg k
  unfold fdivD at hg
  split at hg
  · obtain ⟨hc, e⟩ := some_ite hg
    subst e
    rw [vw_int hx, vw_int hy]
    exact ⟨_, _, rfl, rfl, of_decide_eq_true hc, k _ _ _ (Alc.refl sub) RvNew.int⟩
  · cases hg
theorem o2_mod : Op2 M (rI (fun _ j => j ≠ 0) fun i j => .int (i.fmod j)) modD := by
  intro F H x y d e rv Q sub hx hy hg k
  unfold modD at hg
  split at hg
  · obtain ⟨hc, e⟩ := some_ite hg
    subst e
    rw [vw_int hx, vw_int hy]
    exact ⟨_, _, rfl, rfl, hc, k _ _ _ (Alc.refl sub) RvNew.int⟩
  · cases hg
theorem cPow_ok {i j : Int} (h : cPow i j = true) : CPow i j := by
  have h2 : 0 ≤ j ∧ j ≤ 1000000 ∧ i.natAbs < 18446744073709551616 := of_decide_eq_true h
  exact ⟨h2.1, h2.2.1, h2.2.2⟩
theorem o2_pow : Op2 M (rI CPow fun i j => .int (i ^ j.toNat)) powD := by
  intro F H x y d e rv Q sub hx hy hg k
  unfold powD at hg
  split at hg
  · obtain ⟨hc, e⟩ := some_ite hg
    subst e
    rw [vw_int hx, vw_int hy]
    exact ⟨_, _, rfl, rfl, cPow_ok hc, k _ _ _ (Alc.refl sub) RvNew.int⟩
  · cases hg
variable {a b c : Expr} {ma mb mc : DM RV} {pos : Pos}
theorem de_add (ha : DE X M W a ma) (hb : DE X M W b mb) (hK : M.K = X.K := by rfl) : DE X M W (.BinOp a .Add b pos) (dOp2 addD ma mb) := de_tOp ha hb o2_add fun ta tb p q => by
  rw [hK]
  exact pe_op op_addA p q
theorem de_sub (ha : DE X M W a ma) (hb : DE X M W b mb) : DE X M W (.BinOp a .Sub b pos) (dOp2 subD ma mb) := de_tOp ha hb o2_sub fun ta tb p q => pe_op op_sub p q
theorem de_mul (ha : DE X M W a ma) (hb : DE X M W b mb) : DE X M W (.BinOp a .Mult b pos) (dOp2 mulD ma mb) := de_tOp ha hb o2_mul fun ta tb p q => pe_op op_mulW p q
theorem de_fdiv (ha : DE X M W a ma) (hb : DE X M W b mb) : DE X M W (.BinOp a .FloorDiv b pos) (dOp2 fdivD ma mb) := de_tOp ha hb o2_fdiv fun ta tb p q => pe_op op_fdivG p q
theorem de_mod (ha : DE X M W a ma) (hb : DE X M W b mb) : DE X M W (.BinOp a .Mod b pos) (dOp2 modD ma mb) := de_tOp ha hb o2_mod fun ta tb p q => pe_op op_modN p q
theorem de_pow (ha : DE X M W a ma) (hb : DE X M W b mb) : DE X M W (.BinOp a .Pow b pos) (dOp2 powD ma mb) := de_tOp ha hb o2_pow fun ta tb p q => pe_op op_pow p q
def negD : D → Option RV
  | .int i => some (.im (.int (-i)))
  | _ => none
theorem o1_neg : Op1 M (rU fun i => .int (-i)) negD := by
  intro F H x d rv Q sub hx hg k
  unfold negD at hg
  split at hg
  · cases hg
    rw [vw_int hx]
    exact ⟨_, rfl, k _ _ _ (Alc.refl sub) RvNew.int⟩
  · cases hg
theorem de_neg (ha : DE X M W a ma) : DE X M W (.UnaryOp .USub a pos) (dOp1 negD ma) := de_tUn ha o1_neg fun ta p => pe_un un_neg p
mutual
def toPy : D → PyData
  | .non => .none
  | .bl b => .bool b
  | .int i => .int i
  | .str s => .str s
  | .tup xs => .tuple (toPys xs)
  | .lst xs => .list (toPys xs)
  | .scr ns => .list (ns.map PyData.int)
  | .obj _ _ => .dict []
  | .fn _ => .dict []
  | .exc _ _ => .dict []
  | .tl _ xs => .list (toPys xs)
  | .xt _ _ _ => .dict []
def toPys : List D → List PyData
  | [] => []
  | d :: ds => toPy d :: toPys ds
def plain : Nat → D → Bool
  | 0, _ => false
  | _ + 1, .obj _ _ => false
  | _ + 1, .fn _ => false
  | _ + 1, .exc _ _ => false
  | _ + 1, .xt _ _ _ => false
  | n + 1, .tup xs => plains n xs
  | n + 1, .lst xs => plains n xs
  | n + 1, .tl _ xs => plains n xs
  | _ + 1, _ => true
def plains : Nat → List D → Bool
  | _, [] => true
  | n, d :: ds => plain n d && plains n ds
end
theorem dp_ints : ∀ l : List Int, DpAll M.K H (l.map V.int) (l.map PyData.int)
  | [] => .nil
  | j :: l => .cons (.int j) (dp_ints l)
mutual
theorem Rep.dp (sub : SubF F H) : ∀ (n : Nat) (d : D) (v : V), plain n d = true → Rep M F v d → Dp M.K H v (toPy d)
  | 0, _, _, h, _ => by
    unfold plain at h
    cases h
  | n + 1, .non, _, _, r => by
    cases r
    exact .non
  | n + 1, .bl b, _, _, r => by
    cases r
    exact .bl b
  | n + 1, .int b, _, _, r => by
    cases r
    exact .int b
  | n + 1, .str b, _, _, r => by
    cases r
    exact .str b
  | n + 1, .tup xs, _, h, r => by
    cases r with
    | tup h1 h2 =>
      unfold plain at h
      unfold toPy
      exact .tup (sub.sqT h1) (Reps.dp sub n xs _ h h2)
  | n + 1, .lst xs, _, h, r => by
    cases r with
    | lst h1 h2 =>
      unfold plain at h
      unfold toPy
      exact .lst (.inl (.inl (sub.go _ _ h1))) (Reps.dp sub n xs _ h h2)
  | n + 1, .scr ns, _, _, r => by
    cases r with
    | scr h1 =>
      unfold toPy
      exact .lst (sub.sqL h1) (dp_ints ns)
  | n + 1, .obj _ _, _, h, _ => by
    unfold plain at h
    cases h
  | n + 1, .fn _, _, h, _ => by
    unfold plain at h
    cases h
  | n + 1, .exc _ _, _, h, _ => by
    unfold plain at h
    cases h
  | n + 1, .xt _ _ _, _, h, _ => by
    unfold plain at h
    cases h
  | n + 1, .tl _ xs, _, h, r => by
    cases r with
    | tl h1 h2 =>
      unfold plain at h
      unfold toPy
      exact .lst (.inl (.inl (sub.bk _ _ _ h1))) (Reps.dp sub n xs _ h h2)
theorem Reps.dp (sub : SubF F H) : ∀ (n : Nat) (ds : List D) (vs : List V), plains n ds = true → Reps M F vs ds → DpAll M.K H vs (toPys ds)
  | _, [], _, _, r => by
    cases r
    exact .nil
  | n, d :: ds, _, h, r => by
    unfold plains at h
    obtain ⟨h1, h2⟩ := Bool.and_eq_true_iff.mp h
    cases r with
    | cons r1 r2 =>
      unfold toPys
      exact .cons (Rep.dp sub n d _ h1 r1) (Reps.dp sub n ds _ h2 r2)
end
end
end DL

/- part -/
set_option Elab.async false
set_option linter.all false
set_option maxRecDepth 100000
set_option maxHeartbeats 4000000
namespace DL
open PySem PySem.Spec PyProof.Rows L2
section
variable {M : Mx} {W : WX} {X : Cx} {F H F' H' F1 H1 H0 : Hp} {σ : L2.St} {ρ ρ1 : SE}
def okc (d : D) : Bool := plain 64 d && SeqAt.shaped (toPy d)
def eqv (d e : D) : Bool := PyData.eqv (toPy d) (toPy e)
def eqD (d e : D) : Option RV := if (okc d && okc e) = true then some (.im (.bl (eqv d e))) else none
def neD (d e : D) : Option RV := if (okc d && okc e) = true then some (.im (.bl (!eqv d e))) else none
theorem Vw.dp {v : V} {d : D} (s : SubF F H) (h : Vw M F H v d) (o : plain 64 d = true) : Dp M.K H v (toPy d) := by
  cases d with
  | lst ds =>
    obtain ⟨a, vs, e, h1, h2⟩ := h
    subst e
    unfold plain at o
    unfold toPy
    exact .lst (.inl (.inl h1)) (Reps.dp s 63 ds _ o h2)
  | obj c fs =>
    unfold plain at o
    cases o
  | xt k ks ds =>
    unfold plain at o
    cases o
  | _ => exact Rep.dp s 64 _ _ o h
theorem o2_eq : Op2 M (rEqD M.K) eqD := by
  intro F H x y d e rv Q sub hx hy hg k
  obtain ⟨hc, e1⟩ := some_ite hg
  subst e1
  obtain ⟨h1, h2⟩ := Bool.and_eq_true_iff.mp hc
  obtain ⟨p1, q1⟩ := Bool.and_eq_true_iff.mp h1
  obtain ⟨p2, q2⟩ := Bool.and_eq_true_iff.mp h2
  exact ⟨_, _, hx.dp sub p1, hy.dp sub p2, q1, q2, k _ _ _ (Alc.refl sub) RvNew.bl⟩
theorem o2_ne : Op2 M (rNeD M.K) neD := by
  intro F H x y d e rv Q sub hx hy hg k
  obtain ⟨hc, e1⟩ := some_ite hg
  subst e1
  obtain ⟨h1, h2⟩ := Bool.and_eq_true_iff.mp hc
  obtain ⟨p1, q1⟩ := Bool.and_eq_true_iff.mp h1
  obtain ⟨p2, q2⟩ := Bool.and_eq_true_iff.mp h2
  exact ⟨_, _, hx.dp sub p1, hy.dp sub p2, q1, q2, k _ _ _ (Alc.refl sub) RvNew.bl⟩
def ltD : D → D → Option RV
  | .int i, .int j => some (.im (.bl (decide (i < j))))
  | .str i, .str j => some (.im (.bl (decide (i.cps.toList < j.cps.toList))))
  | _, _ => none
def gtD : D → D → Option RV
  | .int i, .int j => some (.im (.bl (decide (j < i))))
  | _, _ => none
def geD : D → D → Option RV
  | .int i, .int j => some (.im (.bl (decide (j ≤ i))))
  | _, _ => none
abbrev rLtA : R2 := fun x y H Q => rI0 (fun i j => .bl (decide (i < j))) x y H Q ∨ ∃ i j, x = .str i ∧ y = .str j ∧ Q (.bl (decide (i.cps.toList < j.cps.toList))) H
theorem op_ltA : OpR X (compareOp .Lt) rLtA := op_lt.or op_lt_str
theorem o2_lt : Op2 M rLtA ltD := by
  intro F H x y d e rv Q sub hx hy hg k
  unfold ltD at hg
  split at hg
  · cases hg
    rw [vw_int hx, vw_int hy]
    exact .inl ⟨_, _, rfl, rfl, k _ _ _ (Alc.refl sub) RvNew.bl⟩
  · cases hg
    rw [vw_str hx, vw_str hy]
    exact .inr ⟨_, _, rfl, rfl, k _ _ _ (Alc.refl sub) RvNew.bl⟩
  · cases hg
theorem o2_gt : Op2 M (rI0 fun i j => .bl (decide (j < i))) gtD := by
  intro F H x y d e rv Q sub hx hy hg k
  unfold gtD at hg
  split at hg
  · cases hg
    rw [vw_int hx, vw_int hy]
    exact ⟨_, _, rfl, rfl, k _ _ _ (Alc.refl sub) RvNew.bl⟩
  · cases hg
theorem o2_ge : Op2 M (rI0 fun i j => .bl (decide (j ≤ i))) geD := by
  intro F H x y d e rv Q sub hx hy hg k
  unfold geD at hg
  split at hg
  · cases hg
    rw [vw_int hx, vw_int hy]
    exact ⟨_, _, rfl, rfl, k _ _ _ (Alc.refl sub) RvNew.bl⟩
  · cases hg
def flat : D → Bool
  | .non | .bl _ | .int _ | .str _ => true
  | _ => false
def inD (neg : Bool) : D → D → Option RV
  | .str a, .str b => if a.length = 1 then some (.im (.bl (neg != decide (a.cps.getD 0 0 ∈ b.cps.toList)))) else none
  | x, .tup ds => if (flat x && ds.all flat) = true then some (.im (.bl (neg != ds.any fun y => eqv y x))) else none
  | x, .lst ds => if (okc x && okc (.lst ds)) = true then some (.im (.bl (neg != ds.any fun y => eqv y x))) else none
  | _, _ => none
theorem str_one {a : Str} (h : a.length = 1) : a = ⟨#[a.cps.getD 0 0]⟩ := by
  obtain ⟨⟨l⟩⟩ := a
  have h : l.length = 1 := h
  cases l with
  | nil => cases h
  | cons c r =>
    cases r with
    | nil => rfl
    | cons c2 r => cases h
theorem flat_rep {v : V} {d : D} (f : flat d = true) (r : Rep M F v d) : flatV v = true := by
  cases r <;> first
    | rfl
    | (unfold flat at f; cases f)
theorem flat_all : ∀ {vs : List V} {ds : List D}, ds.all flat = true → Reps M F vs ds → vs.all flatV = true
  | _, _, _, .nil => rfl
  | _, _, f, .cons r t => by
    rw [List.all_cons] at f ⊢
    obtain ⟨f1, f2⟩ := Bool.and_eq_true_iff.mp f
    rw [flat_rep f1 r, flat_all f2 t]
    rfl
theorem eqV_rep {v w : V} {d e : D} (f : flat d = true) (f2 : flat e = true) (r : Rep M F v d) (r2 : Rep M F w e) : eqV v w = eqv d e := by
  cases r <;> cases r2 <;> first
    | rfl
    | (unfold flat at f; cases f)
    | (unfold flat at f2; cases f2)
theorem any_rep {w : V} {e : D} (f2 : flat e = true) (r2 : Rep M F w e) : ∀ {vs : List V} {ds : List D}, ds.all flat = true → Reps M F vs ds → (vs.any fun y => eqV y w) = ds.any fun y => eqv y e
  | _, _, _, .nil => rfl
  | _, _, f, .cons r t => by
    rw [List.all_cons] at f
    obtain ⟨f1, f3⟩ := Bool.and_eq_true_iff.mp f
    rw [List.any_cons, List.any_cons, eqV_rep f1 f2 r r2, any_rep f2 r2 f3 t]
theorem toPys_map : ∀ ds : List D, toPys ds = ds.map toPy
  | [] => rfl
  | d :: ds => by
    unfold toPys
    rw [toPys_map ds]
    rfl
abbrev rInA (K : PySem.W.Frag) (neg : Bool) : R2 := fun x y H Q => (∃ (c : Nat) (z : Str), x = .str ⟨#[c]⟩ ∧ y = .str z ∧ Q (.bl (neg != decide (c ∈ z.cps.toList))) H) ∨ (rIn K neg x y H Q ∨ ∃ d ds, Dp K H x d ∧ Dp K H y (.list ds) ∧ SeqAt.shaped d = true ∧ SeqAt.shaped (.list ds) = true ∧ Q (.bl (neg != ds.any fun z => PyData.eqv z d)) H)
theorem op_inA (hu : X.A.units + 65 < cLine) : OpR X (compareOp .In) (rInA X.K false) := by
  refine OpR.or ?_ (OpR.or op_in_seq ?_)
  · intro pins s σ H x y v u Q I rx ry ⟨c, z, h1, h2, q⟩
    exact op_in_sign pins s σ H x y v u Q I rx ry ⟨c, z, h1, h2, by simpa using q⟩
  · intro pins s σ H x y v u Q I rx ry ⟨d, ds, h1, h2, h3, h4, q⟩
    exact op_inD hu pins s σ H x y v u Q I rx ry ⟨d, ds, h1, h2, h3, h4, by simpa using q⟩
theorem o2_in (neg : Bool) : Op2 M (rInA M.K neg) (inD neg) := by
  intro F H x y d e rv Q sub hx hy hg k
  unfold inD at hg
  split at hg
  · rename_i a b
    obtain ⟨hc, e1⟩ := some_ite hg
    subst e1
    have e2 := vw_str hx
    rw [str_one hc] at e2
    exact .inl ⟨_, _, e2, vw_str hy, k _ _ _ (Alc.refl sub) RvNew.bl⟩
  · rename_i ds
    obtain ⟨hc, e1⟩ := some_ite hg
    subst e1
    obtain ⟨f1, f2⟩ := Bool.and_eq_true_iff.mp hc
    obtain ⟨a, vs, ea, h1, r1⟩ := vw_tup hy
    have rx : Rep M F x d := by
      cases d <;> first
        | exact hx
        | (unfold flat at f1; cases f1)
    refine .inr (.inl ⟨a, vs, ea, .inr (sub.sqT h1), flat_rep f1 rx, flat_all f2 r1, ?_⟩)
    have q := k _ _ _ (Alc.refl sub) (RvNew.bl (i := neg != ds.any fun y => eqv y d))
    have e3 : (if neg = true then !inV x vs else inV x vs) = (neg != ds.any fun y => eqv y d) := by
      unfold inV
      rw [any_rep f1 rx f2 r1]
      cases neg <;> simp
    rw [e3]
    exact q
  · rename_i ds
    obtain ⟨hc, e1⟩ := some_ite hg
    subst e1
    obtain ⟨f1, f2⟩ := Bool.and_eq_true_iff.mp hc
    obtain ⟨p1, q1⟩ := Bool.and_eq_true_iff.mp f1
    obtain ⟨p2, q2⟩ := Bool.and_eq_true_iff.mp f2
    refine .inr (.inr ⟨_, _, hx.dp sub p1, hy.dp sub p2, q1, q2, ?_⟩)
    have q := k _ _ _ (Alc.refl sub) (RvNew.bl (i := neg != ds.any fun y => eqv y d))
    have e3 : ((toPys ds).any fun z => PyData.eqv z (toPy d)) = ds.any fun y => eqv y d := by
      rw [toPys_map, List.any_map]
      rfl
    rw [e3]
    exact q
  · cases hg
def isNone : D → Bool
  | .non => true
  | _ => false
def isND (neg : Bool) (d : D) : D → Option RV
  | .non => some (.im (.bl (neg != isNone d)))
  | _ => none
theorem vw_isNone {v : V} {d : D} (h : Vw M F H v d) : decide (v = .non) = isNone d := by
  have kn : ∀ v : V, v ≠ .non → decide (v = .non) = false := fun v hv => decide_eq_false hv
  cases d with
  | non =>
    have e := vw_non h
    subst e
    exact decide_eq_true rfl
  | lst ds =>
    obtain ⟨a, vs, e, _⟩ := h
    subst e
    exact kn _ (by intro z; cases z)
  | bl _ => exact kn _ (by rw [vw_bl h]; intro z; cases z)
  | int _ => exact kn _ (by rw [vw_int h]; intro z; cases z)
  | str _ => exact kn _ (by rw [vw_str h]; intro z; cases z)
  | tup _ =>
    cases h
    exact kn _ (by intro z; cases z)
  | scr _ =>
    cases h
    exact kn _ (by intro z; cases z)
  | obj _ _ =>
    obtain ⟨a, dx, vs, e, _⟩ := h
    subst e
    exact kn _ (by intro z; cases z)
  | tl _ _ =>
    cases h
    exact kn _ (by intro z; cases z)
  | fn _ =>
    cases h
    exact kn _ (by intro z; cases z)
  | exc _ _ =>
    cases h
    exact kn _ (by intro z; cases z)
  | xt _ _ _ =>
    obtain ⟨a, a', us, ws, e, _⟩ := h
    subst e
    exact kn _ (by intro z; cases z)
theorem o2_isN : Op2 M (fun x y H Q => y = .non ∧ Q (.bl (decide (x = .non))) H) (isND false) := by
  intro F H x y d e rv Q sub hx hy hg k
  unfold isND at hg
  split at hg
  · cases hg
    rw [vw_isNone hx]
    exact ⟨vw_non hy, by simpa using k _ _ _ (Alc.refl sub) RvNew.bl⟩
  · cases hg
variable {a b c : Expr} {ma mb mc : DM RV} {pos : Pos}
theorem de_eq (ha : DE X M W a ma) (hb : DE X M W b mb) (hu : X.A.units + 64 < cLine) (hK : M.K = X.K := by rfl) : DE X M W (.Compare a [.Eq] [b] pos) (dOp2 eqD ma mb) := de_tOp ha hb o2_eq fun ta tb p q => by
  rw [hK]
  exact pe_cmpR (op_eqD hu) p q (nomark _)
theorem de_lt (ha : DE X M W a ma) (hb : DE X M W b mb) : DE X M W (.Compare a [.Lt] [b] pos) (dOp2 ltD ma mb) := de_tOp ha hb o2_lt fun ta tb p q => pe_cmpR op_ltA p q (nomark _)
theorem de_isN (ha : DE X M W a ma) (hb : DE X M W b mb) : DE X M W (.Compare a [.Is] [b] pos) (dOp2 (isND false) ma mb) := de_tOp ha hb o2_isN fun ta tb p q => pe_cmpR op_isN p q (nomark _)
end
end DL

/- part -/
set_option Elab.async false
set_option linter.all false
set_option maxRecDepth 100000
set_option maxHeartbeats 4000000
namespace DL
open PySem PySem.Spec PyProof.Rows L2
section
variable {M : Mx} {W : WX} {X : Cx} {F H F' H' F1 H1 H0 : Hp} {σ : L2.St} {ρ ρ1 : SE}
variable {a b c e : Expr} {ma mb mc m : DM RV} {mt mu : DM Bool} {pos : Pos}
def asB (r : RV) (ρ : SE) : R Bool := match r with
  | .im (.bl b) => .ok b ρ
  | _ => .bad
theorem PostT.go {r : R RV} {Q : Bool → Hp → Prop} (h : PostT M W σ ρ F H (r.bind asB) Q) : Post M W σ ρ F H r (fun v H' => ∃ k, v = .bl k ∧ Q k H') := by
  cases r with
  | bad => exact h
  | ok a ρ1 =>
    cases a with
    | im d =>
      cases d with
      | bl b =>
        intro F1 H1 v st sm ok
        cases ok
        exact ⟨b, rfl, h F1 H1 st sm⟩
      | _ => exact h.elim
    | _ => exact h.elim
  | ex e ρ1 => exact h
theorem PostT.step {r : R Bool} {Q : Bool → Hp → Prop} {g : Bool → SE → R Bool} (h : PostT M W σ ρ F H (r.bind g) Q) {Q' : Bool → Hp → Prop}
    (k : ∀ a ρ1 F1 H1, r = .ok a ρ1 → Stp F H σ ρ F1 H1 σ ρ1 → Sim M F1 H1 σ ρ1 → PostT M W σ ρ F H (g a ρ1) Q → Q' a H1) : PostT M W σ ρ F H r Q' := by
  cases r with
  | bad => exact h
  | ok a ρ1 => exact fun F1 H1 st sm => k a ρ1 F1 H1 rfl st sm h
  | ex e ρ1 => exact h
theorem PostT.from {r : R Bool} {Q : Bool → Hp → Prop} (st : Stp F H σ ρ F1 H1 σ ρ1) (h : PostT M W σ ρ F H r Q) : PostT M W σ ρ1 F1 H1 r Q := by
  cases r with
  | bad => exact h
  | ok a ρ2 => exact fun F2 H2 st2 sm => h F2 H2 (st.trans st2) sm
  | ex e ρ2 => exact fun F2 H2 cls d st2 sm ok => h F2 H2 cls d (st.trans st2) sm ok
theorem PostT.goE {r : R Bool} {Q : VK} {g : Bool → SE → R RV} (h : Post M W σ ρ F H (r.bind g) Q) {Q' : Bool → Hp → Prop}
    (k : ∀ a ρ1 F1 H1, r = .ok a ρ1 → Stp F H σ ρ F1 H1 σ ρ1 → Sim M F1 H1 σ ρ1 → Post M W σ ρ F H (g a ρ1) Q → Q' a H1) : PostT M W σ ρ F H r Q' := by
  cases r with
  | bad => exact h
  | ok a ρ1 => exact fun F1 H1 st sm => k a ρ1 F1 H1 rfl st sm h
  | ex e ρ1 => exact h
theorem dt_mk {te : TE} (q : ∀ σ H F ρ Q, Sim M F H σ ρ → Post M W σ ρ F H (m ρ) Q → te σ H Q) (p : PT X e (tTest te)) : DT X M W e (fun ρ => (m ρ).bind asB) :=
  ⟨_, p, fun σ H F ρ Q sm h => q σ H F ρ _ sm (PostT.go h)⟩
theorem dt_val (h : DE X M W e m) (he : ∀ whole, isTrue e X.env whole = (do let v ← whole; standAt e.pos; holding [v] (truthy v)) := by intro _; rfl) : DT X M W e (fun ρ => (m ρ).bind asB) := by
  obtain ⟨te, p, q⟩ := h
  exact dt_mk q (pt_val p he)
theorem q_tOp {ta tb : TE} {r : R2} {g : D → D → Option RV} (qa : ∀ σ H F ρ Q, Sim M F H σ ρ → Post M W σ ρ F H (ma ρ) Q → ta σ H Q) (qb : ∀ σ H F ρ Q, Sim M F H σ ρ → Post M W σ ρ F H (mb ρ) Q → tb σ H Q) (o : Op2 M r g) :
    ∀ σ H F ρ Q, Sim M F H σ ρ → Post M W σ ρ F H (dOp2 g ma mb ρ) Q → tOp r ta tb σ H Q := fun σ H F ρ Q sm h => by
  refine qa σ H F ρ _ sm (Post.go h fun x ρ1 F1 H1 v _ st1 sm1 ok1 h1 => ?_)
  refine qb σ H1 F1 ρ1 _ sm1 (Post.go (Post.from st1 h1) fun y ρ2 F2 H2 u _ st2 sm2 ok2 h2 => ?_)
  obtain ⟨rv, e, k⟩ := Post.fin' h2 st2 sm2
  obtain ⟨d, e', l1, l2, hg⟩ := bind_some2 e
  exact o F2 H2 v u d e' rv Q sm2.sub (ok1.view st2 sm2 l1) (ok2.view0 sm2 l2) hg k
theorem dt_tOp {r : R2} {g : D → D → Option RV} {op : CmpOp} (ho : OpR X (compareOp op) r) (ha : DE X M W a ma) (hb : DE X M W b mb) (o : Op2 M r g) (hm : behindInMarks op b = false) : DT X M W (.Compare a [op] [b] pos) (fun ρ => (dOp2 g ma mb ρ).bind asB) := by
  obtain ⟨ta, pa, qa⟩ := ha
  obtain ⟨tb, pb, qb⟩ := hb
  exact dt_mk (q_tOp qa qb o) (pt_cmpR ho pa pb hm)
theorem dt_eq (ha : DE X M W a ma) (hb : DE X M W b mb) (hu : X.A.units + 64 < cLine) (hK : M.K = X.K := by rfl) : DT X M W (.Compare a [.Eq] [b] pos) (fun ρ => (dOp2 eqD ma mb ρ).bind asB) := dt_tOp (op_eqD hu) ha hb (hK ▸ o2_eq) (nomark _)
theorem dt_ne (ha : DE X M W a ma) (hb : DE X M W b mb) (hu : X.A.units + 64 < cLine) (hK : M.K = X.K := by rfl) : DT X M W (.Compare a [.NotEq] [b] pos) (fun ρ => (dOp2 neD ma mb ρ).bind asB) := dt_tOp (op_neD hu) ha hb (hK ▸ o2_ne) (nomark _)
theorem dt_lt (ha : DE X M W a ma) (hb : DE X M W b mb) : DT X M W (.Compare a [.Lt] [b] pos) (fun ρ => (dOp2 ltD ma mb ρ).bind asB) := dt_tOp op_ltA ha hb o2_lt (nomark _)
theorem dt_gt (ha : DE X M W a ma) (hb : DE X M W b mb) : DT X M W (.Compare a [.Gt] [b] pos) (fun ρ => (dOp2 gtD ma mb ρ).bind asB) := dt_tOp op_gt ha hb o2_gt (nomark _)
theorem dt_ge (ha : DE X M W a ma) (hb : DE X M W b mb) : DT X M W (.Compare a [.GtE] [b] pos) (fun ρ => (dOp2 geD ma mb ρ).bind asB) := dt_tOp op_ge ha hb o2_ge (nomark _)
theorem dt_isN (ha : DE X M W a ma) (hb : DE X M W b mb) : DT X M W (.Compare a [.Is] [b] pos) (fun ρ => (dOp2 (isND false) ma mb ρ).bind asB) := dt_tOp op_isN ha hb o2_isN (nomark _)
theorem dt_in (ha : DE X M W a ma) (hb : DE X M W b mb) (hu : X.A.units + 65 < cLine) (hm : behindInMarks .In b = false := by rfl) (hK : M.K = X.K := by rfl) : DT X M W (.Compare a [.In] [b] pos) (fun ρ => (dOp2 (inD false) ma mb ρ).bind asB) := dt_tOp (op_inA hu) ha hb (hK ▸ o2_in false) hm
def dAndT (mt mu : DM Bool) : DM Bool := fun ρ => (mt ρ).bind fun c ρ1 => if c = true then mu ρ1 else .ok false ρ1
def dOrT (mt mu : DM Bool) : DM Bool := fun ρ => (mt ρ).bind fun c ρ1 => if c = true then .ok true ρ1 else mu ρ1
def dNotT (mt : DM Bool) : DM Bool := fun ρ => (mt ρ).bind fun c ρ1 => .ok (!c) ρ1
variable {rest : List Expr}
theorem dw_and1 (ha : DT X M W a mt) : DW X M W (.BoolOp .And [a] pos) mt := by
  obtain ⟨ta, pa, qa⟩ := ha
  exact ⟨ta, pw_and1 pa, qa⟩
theorem dw_or1 (ha : DT X M W a mt) : DW X M W (.BoolOp .Or [a] pos) mt := by
  obtain ⟨ta, pa, qa⟩ := ha
  exact ⟨ta, pw_or1 pa, qa⟩
theorem dw_and (ha : DT X M W a mt) (hb : DW X M W (.BoolOp .And (b :: rest) pos) mu) : DW X M W (.BoolOp .And (a :: b :: rest) pos) (dAndT mt mu) := by
  obtain ⟨ta, pa, qa⟩ := ha
  obtain ⟨tb, pb, qb⟩ := hb
  refine ⟨_, pw_and pa pb, fun σ H F ρ Q sm h => ?_⟩
  refine qa σ H F ρ _ sm (PostT.step h fun c ρ1 F1 H1 _ st1 sm1 h1 => ?_)
  cases c with
  | true => exact qb σ H1 F1 ρ1 Q sm1 (PostT.from st1 h1)
  | false => exact h1 F1 H1 st1 sm1
theorem dw_or (ha : DT X M W a mt) (hb : DW X M W (.BoolOp .Or (b :: rest) pos) mu) : DW X M W (.BoolOp .Or (a :: b :: rest) pos) (dOrT mt mu) := by
  obtain ⟨ta, pa, qa⟩ := ha
  obtain ⟨tb, pb, qb⟩ := hb
  refine ⟨_, pw_or pa pb, fun σ H F ρ Q sm h => ?_⟩
  refine qa σ H F ρ _ sm (PostT.step h fun c ρ1 F1 H1 _ st1 sm1 h1 => ?_)
  cases c with
  | false => exact qb σ H1 F1 ρ1 Q sm1 (PostT.from st1 h1)
  | true => exact h1 F1 H1 st1 sm1
theorem dt_w (h : DW X M W e mt) : DT X M W e mt := by
  obtain ⟨t, p, q⟩ := h
  exact ⟨t, p.pt, q⟩
theorem dt_not (ha : DT X M W a mt) : DT X M W (.UnaryOp .Not a pos) (dNotT mt) := by
  obtain ⟨ta, pa, qa⟩ := ha
  refine ⟨_, pt_not pa, fun σ H F ρ Q sm h => ?_⟩
  exact qa σ H F ρ _ sm (PostT.step h fun c ρ1 F1 H1 _ st1 sm1 h1 => h1 F1 H1 st1 sm1)
def dAnd (ma mb : DM RV) : DM RV := fun ρ => ((ma ρ).bind asB).bind fun c ρ1 => if c = true then mb ρ1 else .ok (.im (.bl false)) ρ1
theorem de_one {op} (h : DE X M W a m) : DE X M W (.BoolOp op [a] pos) m := by
  obtain ⟨t, p, q⟩ := h
  exact ⟨t, pe_one p, q⟩
theorem de_and (ha : DE X M W a ma) (hb : DE X M W (.BoolOp .And (b :: rest) pos) mb) : DE X M W (.BoolOp .And (a :: b :: rest) pos) (dAnd ma mb) := by
  obtain ⟨ta, pa, qa⟩ := ha
  obtain ⟨tb, pb, qb⟩ := hb
  refine ⟨_, pe_and pa pb, fun σ H F ρ Q sm h => ?_⟩
  refine qa σ H F ρ _ sm (PostT.go (Q := fun c H1 => if c = true then tb σ H1 Q else Q (.bl false) H1) (PostT.goE h fun c ρ1 F1 H1 _ st1 sm1 h1 => ?_))
  cases c with
  | true => exact qb σ H1 F1 ρ1 Q sm1 (Post.from st1 h1)
  | false => exact h1 F1 H1 _ st1 sm1 (Rep.bl false)
def dIf (mt : DM Bool) (ma mb : DM RV) : DM RV := fun ρ => (mt ρ).bind fun c ρ1 => if c = true then ma ρ1 else mb ρ1
theorem de_if (hc : DT X M W c mt) (ha : DE X M W a ma) (hb : DE X M W b mb) : DE X M W (.IfExp c a b pos) (dIf mt ma mb) := by
  obtain ⟨tc, pc, qc⟩ := hc
  obtain ⟨ta, pa, qa⟩ := ha
  obtain ⟨tb, pb, qb⟩ := hb
  refine ⟨_, pe_ifExp pc pa pb, fun σ H F ρ Q sm h => ?_⟩
  refine qc σ H F ρ _ sm (PostT.goE h fun c ρ1 F1 H1 _ st1 sm1 h1 => ?_)
  cases c with
  | true => exact qa σ H1 F1 ρ1 Q sm1 (Post.from st1 h1)
  | false => exact qb σ H1 F1 ρ1 Q sm1 (Post.from st1 h1)
def fz (r : RV) (ρ : SE) : R D := match r with
  | .im d => .ok d ρ
  | .ow oc => .ok oc.D ρ
  | .bo i => match ρ[i]? with
    | some (.ow false oc) => .ok oc.D (ρ.set i (.im oc.D))
    | _ => .bad
  | .ot _ _ => .bad
  | .bt _ _ => .bad
theorem own_set {i : Nat} {d : D} {ρ : SE} {x : Addr} (h : Own σ (ρ.set i (.im d)) x) : Own σ ρ x := by
  obtain ⟨j, ⟨io, ds, e⟩, e2⟩ := h
  refine ⟨j, ⟨io, ds, ?_⟩, e2⟩
  by_cases hj : j = i
  · subst hj
    rw [List.getElem?_set] at e
    simp only [if_true] at e
    split at e <;> cases e
  · rw [List.getElem?_set_ne (Ne.symm hj)] at e
    exact e
theorem OcRep.frz {a : Addr} {o : HO} {oc : OC} (n : F a = none) (r : OcRep M F o oc) : Rep M (upd F a o) (.ref a) oc.D := by
  cases r with
  | ls r => exact .lst upd_same (r.up (same_upd n))
  | ob r k nd => exact .obj upd_same (r.up (same_upd n)) k (nd.up (same_upd n))
  | xt r s => exact .xt upd_same (r.up (same_upd n)) (s.up (same_upd n))
theorem set_ne {i j : Nat} {x : SV} {ρ : SE} (h : j ≠ i) : (ρ.set i x)[j]? = ρ[j]? := by
  rw [List.getElem?_set_ne (Ne.symm h)]
theorem set_eq {i : Nat} {x y : SV} {ρ : SE} (h : (ρ.set i x)[i]? = some y) : y = x := by
  rw [List.getElem?_set] at h
  simp only [if_true] at h
  split at h
  · exact (Option.some.inj h).symm
  · cases h
theorem fz_ok {F0 : Hp} {ρ0 : SE} {r : RV} {v : V} {d : D} {ρ2 : SE} (st : Stp F0 H0 σ ρ0 F H σ ρ) (ok : RvOk M H0 F H σ ρ v r) (sm : Sim M F H σ ρ) (e : fz r ρ = .ok d ρ2) :
    ∃ F', Stp F0 H0 σ ρ0 F' H σ ρ2 ∧ Sim M F' H σ ρ2 ∧ Rep M F' v d ∧ Same F F' := by
  cases r with
  | im d' =>
    cases e
    exact ⟨F, st, sm, ok, Same.refl _⟩
  | ow oc =>
    cases e
    obtain ⟨a, o, e1, h1, h2, h3, h4, h5⟩ := ok
    subst e1
    have up := same_upd (o := o) h2
    refine ⟨upd F a o, ⟨st.same.trans up, st.keep, st.new, fun b o e => ?_, st.dom, st.io, st.noio⟩, ⟨⟨sm.sub.put h1 h3.nb, sm.ntb.upd h3.nt⟩, sm.tabs, sm.len, fun i d' e => ?_, fun i io ds' e => ?_, sm.inj⟩, h3.frz h2, up⟩
    · by_cases hb : b = a
      · subst hb
        exact .inr (.inr h5)
      · rw [upd_ne hb] at e
        exact st.newF b o e
    · obtain ⟨v, e1, r⟩ := sm.im i d' e
      exact ⟨v, e1, r.up up⟩
    · obtain ⟨b, ws, e1, e2, e3, e4⟩ := sm.ow i io ds' e
      refine ⟨b, ws, e1, e2, ?_, e4.up up⟩
      rw [upd_ne]
      · exact e3
      · intro z
        subst z
        exact h4 ⟨i, ⟨io, ds', e⟩, e1⟩
  | ot ds d => cases e
  | bt k d => cases e
  | bo i =>
    have e : (match ρ[i]? with
      | some (.ow false oc) => R.ok oc.D (ρ.set i (.im oc.D))
      | _ => .bad) = .ok d ρ2 := e
    split at e
    · rename_i oc hi
      cases e
      obtain ⟨_, hv⟩ := ok
      obtain ⟨a, o, e1, h1, h2, h3⟩ := sm.ow i false oc hi
      rw [hv] at e1
      cases e1
      have up := same_upd (o := o) h2
      have hown : Own σ ρ a := ⟨i, ⟨false, oc, hi⟩, hv⟩
      refine ⟨upd F a o, ⟨st.same.trans up, st.keep, fun b z => st.new b (own_set z), fun b o e => ?_, st.dom, fun j es e => ?_, fun j es e => ?_⟩, ⟨⟨sm.sub.put h1 h3.nb, sm.ntb.upd h3.nt⟩, sm.tabs, by rw [List.length_set]; exact sm.len, fun j d' e => ?_, fun j io ds' e => ?_, fun j l b hj hl => ?_⟩, h3.frz h2, up⟩
      · by_cases hb : b = a
        · subst hb
          exact .inr (st.new b hown)
        · rw [upd_ne hb] at e
          exact st.newF b o e
      · obtain ⟨e1, es', e2⟩ := st.io j es e
        refine ⟨e1, es', ?_⟩
        rw [set_ne]
        · exact e2
        · intro z
          subst z
          rw [hi] at e2
          cases e2
      · by_cases hj : j = i
        · subst hj
          cases set_eq e
        · rw [set_ne hj] at e
          exact st.noio j es e
      · by_cases hj : j = i
        · subst hj
          cases set_eq e
          exact ⟨_, hv, h3.frz h2⟩
        · rw [set_ne hj] at e
          obtain ⟨v, e1, r⟩ := sm.im j d' e
          exact ⟨v, e1, r.up up⟩
      · by_cases hj : j = i
        · subst hj
          cases set_eq e
        · rw [set_ne hj] at e
          obtain ⟨b, ws, e1, e2, e3, e4⟩ := sm.ow j io ds' e
          refine ⟨b, ws, e1, e2, ?_, e4.up up⟩
          rw [upd_ne]
          · exact e3
          · intro z
            subst z
            exact hj (sm.inj j i _ ⟨io, ds', e⟩ ⟨false, oc, hi⟩ e1 hv)
      · have w : ∀ j, isOw (ρ.set i (.im oc.D)) j → isOw ρ j := fun j ⟨io, es, e⟩ => by
          by_cases hj : j = i
          · subst hj
            cases set_eq e
          · rw [set_ne hj] at e
            exact ⟨io, es, e⟩
        exact sm.inj j l b (w j hj) (w l hl)
    · cases e
def dFz (ma : DM RV) : DM D := fun ρ => (ma ρ).bind fz
def aNil : DM (List AV) := fun ρ => .ok [] ρ
def aCons (ma : DM RV) (ms : DM (List AV)) : DM (List AV) := fun ρ => (dFz ma ρ).bind fun d ρ1 => (ms ρ1).bind fun as ρ2 => .ok (.d d :: as) ρ2
def aIo (i : Nat) (ms : DM (List AV)) : DM (List AV) := fun ρ => match ρ[i]? with
  | some (.ow _ _) => (ms ρ).bind fun as ρ2 => match ρ2[i]? with
    | some (.ow _ _) => .ok (.io i :: as) ρ2
    | _ => .bad
  | _ => .bad
theorem AvOk.up {v : V} {a : AV} (h : AvOk M F1 σ ρ1 v a) (s : Same F1 F) (k : ∀ i, a = .io i → isOw ρ i) : AvOk M F σ ρ v a := by
  cases a with
  | d d => exact Rep.up s h
  | io i => exact ⟨k i rfl, h.2⟩
variable {es : List Expr} {ms : DM (List AV)}
theorem da_nil : DA X M W [] aNil := ⟨_, pa_nil, fun σ H F ρ Q sm h => h F H [] (Stp.refl _ _ _ _) sm .nil⟩
theorem PostA.from {r : R (List AV)} {Q : List V → Hp → Prop} (st : Stp F H σ ρ F1 H1 σ ρ1) (h : PostA M W σ ρ F H r Q) : PostA M W σ ρ1 F1 H1 r Q := by
  cases r with
  | bad => exact h
  | ok a ρ2 => exact fun F2 H2 v st2 sm ok => h F2 H2 v (st.trans st2) sm ok
  | ex e ρ2 => exact fun F2 H2 cls d st2 sm ok => h F2 H2 cls d (st.trans st2) sm ok
def PostD (M : Mx) (W : WX) (σ : L2.St) (ρ : SE) (F H : Hp) (r : R D) (Q : VK) : Prop := match r with
  | .bad => False
  | .ok d ρ' => ∀ F' H' v, Stp F H σ ρ F' H' σ ρ' → Sim M F' H' σ ρ' → Rep M F' v d → Q v H'
  | .ex e ρ' => ∀ F' H' cls d, Stp F H σ ρ F' H' σ ρ' → Sim M F' H' σ ρ' → ExcOk M F' H' cls d e → W cls d σ H'
theorem PostD.go {r : R RV} {Q : VK} (h : PostD M W σ ρ F H (r.bind fz) Q) : Post M W σ ρ F H r Q := by
  cases r with
  | bad => exact h
  | ok a ρ1 =>
    intro F1 H1 v st sm ok
    have h : PostD M W σ ρ F H (fz a ρ1) Q := h
    cases e : fz a ρ1 with
    | bad =>
      rw [e] at h
      exact h.elim
    | ok d ρ2 =>
      rw [e] at h
      obtain ⟨F', st', sm', r', _⟩ := fz_ok st ok sm e
      exact h F' H1 v st' sm' r'
    | ex x ρ2 =>
      cases a with
      | im d => cases e
      | ow ds => cases e
      | ot ds d => cases e
      | bt k d => cases e
      | bo i =>
        have e : (match ρ1[i]? with
          | some (.ow false oc) => R.ok oc.D (ρ1.set i (.im oc.D))
          | _ => .bad) = .ex x ρ2 := e
        split at e <;> cases e
  | ex e ρ1 => exact h
theorem PostD.step {α : Type} {r : R D} {g : D → SE → R α} {P : R α → Prop} {Q' : VK} (hb : P .bad → False) (hx : ∀ e ρ', P (.ex e ρ') → ∀ F' H' cls d, Stp F H σ ρ F' H' σ ρ' → Sim M F' H' σ ρ' → ExcOk M F' H' cls d e → W cls d σ H') (h : P (r.bind g))
    (k : ∀ d ρ1 F1 H1 v, Stp F H σ ρ F1 H1 σ ρ1 → Sim M F1 H1 σ ρ1 → Rep M F1 v d → P (g d ρ1) → Q' v H1) : PostD M W σ ρ F H r Q' := by
  cases r with
  | bad => exact hb h
  | ok d ρ1 => exact fun F1 H1 v st sm ok => k d ρ1 F1 H1 v st sm ok h
  | ex e ρ1 => exact hx e ρ1 h
theorem q_tCons {te : TE} {t : TA} (qa : ∀ σ H F ρ Q, Sim M F H σ ρ → Post M W σ ρ F H (ma ρ) Q → te σ H Q) (qs : ∀ σ H F ρ Q, Sim M F H σ ρ → PostA M W σ ρ F H (ms ρ) Q → t σ H Q) : ∀ σ H F ρ Q, Sim M F H σ ρ → PostA M W σ ρ F H (aCons ma ms ρ) Q → tCons te t σ H Q := fun σ H F ρ Q sm h => by
  refine qa σ H F ρ _ sm (PostD.go (PostD.step (P := fun r => PostA M W σ ρ F H r Q) (fun z => z) (fun e ρ' z => z) h fun d ρ1 F1 H1 v st1 sm1 r1 h1 => ?_))
  refine qs σ H1 F1 ρ1 _ sm1 ?_
  have h2 := PostA.from st1 h1
  cases e : ms ρ1 with
  | bad =>
    rw [e] at h2
    exact h2
  | ok as ρ2 =>
    rw [e] at h2
    exact fun F2 H2 vs st2 sm2 ok2 => h2 F2 H2 _ st2 sm2 (.cons (show AvOk M F2 σ ρ2 v (.d d) from Rep.up st2.same r1) ok2)
  | ex x ρ2 =>
    rw [e] at h2
    exact h2
theorem da_cons (ha : DE X M W a ma) (hs : DA X M W es ms) (hst : starEach (a :: es) X.env = (false, eval a X.env) :: starEach es X.env := by rfl) : DA X M W (a :: es) (aCons ma ms) := by
  obtain ⟨te, pa, qa⟩ := ha
  obtain ⟨t, ps, qs⟩ := hs
  exact ⟨_, pa_cons pa ps hst, q_tCons qa qs⟩
theorem da_io (i : Nat) {x : Str} {p : Pos} (hs : DA X M W es ms) (hN : X.N[i]? = some x := by rfl) (hv : Vis X.env.scope x := by first | exact Or.inl rfl | exact Or.inr (Or.inl rfl) | exact Or.inr (Or.inr rfl)) (hd : (x == ("__debug__" : Str)) = false := by decide)
    (hcd : (x == ("__classdict__" : Str)) = false := by decide) (hst : starEach (.Name x p :: es) X.env = (false, eval (.Name x p) X.env) :: starEach es X.env := by rfl) : DA X M W (.Name x p :: es) (aIo i ms) := by
  obtain ⟨t, ps, qs⟩ := hs
  refine ⟨_, pa_cons (pe_var hN hv hd hcd) ps hst, fun σ H F ρ Q sm h => ?_⟩
  unfold aIo at h
  split at h
  · rename_i io ds e
    obtain ⟨b, vs, e1, e2, e3, e4⟩ := sm.ow i io ds e
    refine ⟨_, e1, qs σ H F ρ _ sm ?_⟩
    cases e5 : ms ρ with
    | bad =>
      rw [e5] at h
      exact h
    | ok as ρ2 =>
      rw [e5] at h
      have h : PostA M W σ ρ F H (match ρ2[i]? with
        | some (.ow _ _) => .ok (.io i :: as) ρ2
        | _ => .bad) Q := h
      split at h
      · rename_i io2 ds2 e6
        exact fun F2 H2 vs st2 sm2 ok2 => h F2 H2 _ st2 sm2 (.cons (show AvOk M F2 σ ρ2 _ (.io i) from ⟨⟨io2, ds2, e6⟩, e1⟩) ok2)
      · exact h.elim
    | ex x ρ2 =>
      rw [e5] at h
      exact h
  · exact h.elim
def avD : List AV → Option (List D)
  | [] => some []
  | .d d :: as => (avD as).map (d :: ·)
  | .io _ :: _ => none
theorem avD_ok : ∀ {as : List AV} {ds : List D} {vs : List V}, AvsOk M F σ ρ vs as → avD as = some ds → Reps M F vs ds
  | [], _, _, .nil, e => by
    cases e
    exact .nil
  | .d d :: as, ds, _, .cons h t, e => by
    unfold avD at e
    cases e2 : avD as with
    | none =>
      rw [e2] at e
      cases e
    | some ds' =>
      rw [e2] at e
      cases e
      exact .cons h (avD_ok t e2)
  | .io i :: as, _, _, .cons h t, e => by
    cases e
def dTup (ms : DM (List AV)) : DM RV := fun ρ => (ms ρ).bind fun as ρ1 => ofO ((avD as).bind fun ds => if ds.length ≤ 1000 then some (.im (.tup ds)) else none) ρ1
def dLst (ms : DM (List AV)) : DM RV := fun ρ => (ms ρ).bind fun as ρ1 => ofO ((avD as).bind fun ds => if ds.length ≤ 1000 then some (.ow (.ls ds)) else none) ρ1
theorem PostA.goE {r : R (List AV)} {Q : VK} {g : List AV → SE → R RV} (h : Post M W σ ρ F H (r.bind g) Q) {Q' : List V → Hp → Prop}
    (k : ∀ a ρ1 F1 H1 v, r = .ok a ρ1 → Stp F H σ ρ F1 H1 σ ρ1 → Sim M F1 H1 σ ρ1 → AvsOk M F1 σ ρ1 v a → Post M W σ ρ F H (g a ρ1) Q → Q' v H1) : PostA M W σ ρ F H r Q' := by
  cases r with
  | bad => exact h
  | ok a ρ1 => exact fun F1 H1 v st sm ok => k a ρ1 F1 H1 v rfl st sm ok h
  | ex e ρ1 => exact h
theorem de_tup {x1} (h : DA X M W es ms) : DE X M W (.Tuple es x1 pos) (dTup ms) := by
  obtain ⟨t, p, q⟩ := h
  refine ⟨_, pe_tup p, fun σ H F ρ Q sm h => ?_⟩
  refine q σ H F ρ _ sm (PostA.goE h fun as ρ1 F1 H1 vs _ st1 sm1 ok1 h1 => ?_)
  obtain ⟨rv, e, k⟩ := Post.fin' h1 st1 sm1
  obtain ⟨ds, e2, e3⟩ := bind_some1 e
  obtain ⟨hl, e4⟩ := some_ite e3
  subst e4
  have r := avD_ok ok1 e2
  exact ⟨by rw [r.length]; exact szle (by omega), fun p hp => new_tup sm1.sub r k hp⟩
theorem de_lst {pos : Pos} (h : DA X M W es ms) : DE X M W (.List es pos) (dLst ms) := by
  obtain ⟨t, p, q⟩ := h
  refine ⟨_, pe_lst p, fun σ H F ρ Q sm h => ?_⟩
  refine q σ H F ρ _ sm (PostA.goE h fun as ρ1 F1 H1 vs _ st1 sm1 ok1 h1 => ?_)
  obtain ⟨rv, e, k⟩ := Post.fin' h1 st1 sm1
  obtain ⟨ds, e2, e3⟩ := bind_some1 e
  obtain ⟨hl, e4⟩ := some_ite e3
  subst e4
  have r := avD_ok ok1 e2
  exact ⟨by rw [r.length]; exact szle (by omega), fun p hp => new_lst sm1.sub r k hp⟩
end
end DL

/- part -/
set_option Elab.async false
set_option linter.all false
set_option maxRecDepth 100000
set_option maxHeartbeats 4000000
namespace DL
open PySem PySem.Spec PyProof.Rows L2
section
variable {M : Mx} {W : WX} {X : Cx} {F H F' H' F1 H1 H0 : Hp} {σ : L2.St} {ρ ρ1 : SE}
variable {a b c e : Expr} {ma mb mc m : DM RV} {mt mu : DM Bool} {ms : DM (List AV)} {es : List Expr} {pos : Pos}
theorem atI_rep {vs : List V} {ds : List D} {i : Int} {d : D} (r : Reps M F vs ds) (h : atI ds i = some d) : ∃ v, atI vs i = some v ∧ Rep M F v d := by
  unfold atI at h ⊢
  rw [r.length]
  cases e : ixN ds.length i with
  | none =>
    rw [e] at h
    cases h
  | some j =>
    rw [e] at h
    exact r.get h
def ixD : D → D → Option RV
  | .lst ds, .int i => (atI ds i).map RV.im
  | .tup ds, .int i => (atI ds i).map RV.im
  | .str z, .int i => if z.length ≤ 1000000 then (atI z.cps.toList i).map fun c => RV.im (.str ⟨#[c]⟩) else none
  | .scr ns, .int i => (atI ns i).map fun n => RV.im (.int n)
  | _, _ => none
theorem map_some {α β : Type} {o : Option α} {f : α → β} {r : β} (h : o.map f = some r) : ∃ x, o = some x ∧ f x = r := by
  cases o with
  | none => cases h
  | some x => exact ⟨x, rfl, Option.some.inj h⟩
theorem o2_ix : Op2 M (rIx M.K) ixD := by
  intro F H x y d e rv Q sub hx hy hg k
  unfold ixD at hg
  split at hg
  · obtain ⟨d, h1, h2⟩ := map_some hg
    subst h2
    obtain ⟨a, vs, e1, h3, r⟩ := hx
    obtain ⟨v, h4, h5⟩ := atI_rep r h1
    exact .inl ⟨a, vs, _, v, e1, vw_int hy, .inl (.inl h3), h4, k _ _ _ (Alc.refl sub) h5⟩
  · obtain ⟨d, h1, h2⟩ := map_some hg
    subst h2
    obtain ⟨a, vs, e1, h3, r⟩ := vw_tup hx
    obtain ⟨v, h4, h5⟩ := atI_rep r h1
    exact .inr (.inl ⟨a, vs, _, v, e1, vw_int hy, sub.sqT h3, h4, k _ _ _ (Alc.refl sub) h5⟩)
  · rename_i z i
    split at hg
    · rename_i hz
      obtain ⟨d, h1, h2⟩ := map_some hg
      subst h2
      exact .inr (.inr ⟨z, _, d, vw_str hx, vw_int hy, szle hz, h1, k _ _ _ (Alc.refl sub) RvNew.str⟩)
    · cases hg
  · rename_i ns i
    obtain ⟨n, h1, h2⟩ := map_some hg
    subst h2
    cases hx with
    | scr h3 =>
      refine .inl ⟨_, _, i, .int n, rfl, vw_int hy, sub.sqL h3, ?_, k _ _ _ (Alc.refl sub) RvNew.int⟩
      unfold atI at h1 ⊢
      rw [List.length_map]
      cases e : ixN ns.length i with
      | none =>
        rw [e] at h1
        cases h1
      | some j =>
        rw [e] at h1
        have h1 : ns[j]? = some n := h1
        show (ns.map V.int)[j]? = some (V.int n)
        rw [List.getElem?_map, h1]
        rfl
  · cases hg
theorem de_ix (ha : DE X M W a ma) (hb : DE X M W b mb) (hs : PlainIx b := by exact fun _ _ => rfl) (hK : M.K = X.K := by rfl) : DE X M W (.Subscript a b pos) (dOp2 ixD ma mb) := de_tOp ha hb o2_ix fun ta tb p q => by
  rw [hK]
  exact pe_ix ix_seq p q hs
def sExpr (m : DM RV) : DM Fl := fun ρ => (m ρ).bind fun _ ρ1 => .ok .nx ρ1
def sRet (m : DM RV) : DM Fl := fun ρ => (m ρ).bind fun r ρ1 => .ok (.rt r) ρ1
def sPass : DM Fl := fun ρ => .ok .nx ρ
def sSeq (s t : DM Fl) : DM Fl := fun ρ => (s ρ).bind fun f ρ1 => match f with
  | .nx => t ρ1
  | f => .ok f ρ1
def sIf (mt : DM Bool) (s t : DM Fl) : DM Fl := fun ρ => (mt ρ).bind fun c ρ1 => if c = true then s ρ1 else t ρ1
theorem Post.goS {r : R RV} {E : Ends} {g : RV → SE → R Fl} (h : PostS M W σ ρ F H (r.bind g) E) {Q' : VK}
    (k : ∀ a ρ1 F1 H1 v, r = .ok a ρ1 → Stp F H σ ρ F1 H1 σ ρ1 → Sim M F1 H1 σ ρ1 → RvOk M H F1 H1 σ ρ1 v a → PostS M W σ ρ F H (g a ρ1) E → Q' v H1) : Post M W σ ρ F H r Q' := by
  cases r with
  | bad => exact h
  | ok a ρ1 => exact fun F1 H1 v st sm ok => k a ρ1 F1 H1 v rfl st sm ok h
  | ex e ρ1 => exact fun F' H' cls d st sm ok => h F' H' σ cls d st sm ok
theorem PostT.goS {r : R Bool} {E : Ends} {g : Bool → SE → R Fl} (h : PostS M W σ ρ F H (r.bind g) E) {Q' : Bool → Hp → Prop}
    (k : ∀ a ρ1 F1 H1, r = .ok a ρ1 → Stp F H σ ρ F1 H1 σ ρ1 → Sim M F1 H1 σ ρ1 → PostS M W σ ρ F H (g a ρ1) E → Q' a H1) : PostT M W σ ρ F H r Q' := by
  cases r with
  | bad => exact h
  | ok a ρ1 => exact fun F1 H1 st sm => k a ρ1 F1 H1 rfl st sm h
  | ex e ρ1 => exact fun F' H' cls d st sm ok => h F' H' σ cls d st sm ok
theorem RvOk.from {v : V} {r : RV} {σ1 : L2.St} (h : RvOk M H1 F' H' σ1 ρ1 v r) (dom : ∀ b, Fre H1 b → Fre H b) : RvOk M H F' H' σ1 ρ1 v r := by
  cases r with
  | im d => exact h
  | ow ds =>
    obtain ⟨a, vs, e, h1, h2, h3, h4, h5⟩ := h
    exact ⟨a, vs, e, h1, h2, h3, h4, dom _ h5⟩
  | bo i => exact h
  | bt i d => exact h
  | ot ds d =>
    obtain ⟨T, a, vs, x, e, h1, h2, h3, h4, h5, h6, h7⟩ := h
    exact ⟨T, a, vs, x, e, h1, h2, h3, h4, h5, h6, dom _ h7⟩
theorem PostS.from {r : R Fl} {E : Ends} {σ1 : L2.St} (st : Stp F H σ ρ F1 H1 σ1 ρ1) (h : PostS M W σ ρ F H r E) : PostS M W σ1 ρ1 F1 H1 r E := by
  cases r with
  | bad => exact h
  | ok f ρ2 =>
    cases f with
    | nx => exact fun F2 H2 σ2 st2 sm => h F2 H2 σ2 (st.trans st2) sm
    | bk => exact fun F2 H2 σ2 st2 sm => h F2 H2 σ2 (st.trans st2) sm
    | ct => exact fun F2 H2 σ2 st2 sm => h F2 H2 σ2 (st.trans st2) sm
    | rt r => exact fun F2 H2 σ2 v st2 sm ok => h F2 H2 σ2 v (st.trans st2) sm (ok.from st.dom)
  | ex e ρ2 => exact fun F2 H2 σ2 cls d st2 sm ok => h F2 H2 σ2 cls d (st.trans st2) sm ok
theorem ds_expr (he : DE X M W e m) (hs : swapsWith e none pos.line X.env = pure false := by rfl) : DS X M W (.Expr e pos) (sExpr m) := by
  obtain ⟨t, p, q⟩ := he
  refine ⟨_, ps_expr p hs, fun σ H F ρ E sm h => ?_⟩
  exact q σ H F ρ _ sm (Post.goS h fun r ρ1 F1 H1 v _ st1 sm1 ok1 h1 => h1 F1 H1 σ st1 sm1)
theorem ds_ret (he : DE X M W e m) : DS X M W (.Return (some e) pos) (sRet m) := by
  obtain ⟨t, p, q⟩ := he
  refine ⟨_, ps_ret p, fun σ H F ρ E sm h => ?_⟩
  exact q σ H F ρ _ sm (Post.goS h fun r ρ1 F1 H1 v _ st1 sm1 ok1 h1 => h1 F1 H1 σ v st1 sm1 ok1)
def sRetN : DM Fl := fun ρ => .ok (.rt (.im .non)) ρ
theorem ds_retN : DS X M W (.Return none pos) sRetN := ⟨_, ps_retN, fun σ H F ρ E sm h => h F H σ _ (Stp.refl _ _ _ _) sm Rep.non⟩
theorem dss_nil : DSs X M W [] sPass := ⟨_, pss_nil, fun σ H F ρ E sm h => h F H σ (Stp.refl _ _ _ _) sm⟩
variable {st : Stmt} {sts : List Stmt} {s t : DM Fl}
theorem dss_one (h : DS X M W st s) : DSs X M W [st] s := by
  obtain ⟨t, p, q⟩ := h
  exact ⟨t, pss_one p, q⟩
theorem dss_cons (h1 : DS X M W st s) (h2 : DSs X M W sts t) : DSs X M W (st :: sts) (sSeq s t) := by
  obtain ⟨t1, p1, q1⟩ := h1
  obtain ⟨t2, p2, q2⟩ := h2
  refine ⟨_, pss_cons p1 p2, fun σ H F ρ E sm h => ?_⟩
  refine q1 σ H F ρ _ sm ?_
  have h : PostS M W σ ρ F H ((s ρ).bind fun f ρ1 => match f with
    | .nx => t ρ1
    | f => .ok f ρ1) E := h
  cases e : s ρ with
  | bad =>
    rw [e] at h
    exact h
  | ok f ρ1 =>
    rw [e] at h
    cases f with
    | nx => exact fun F1 H1 σ1 st1 sm1 => q2 σ1 H1 F1 ρ1 E sm1 (PostS.from st1 h)
    | bk => exact h
    | ct => exact h
    | rt r => exact h
  | ex x ρ1 =>
    rw [e] at h
    exact h
theorem ds_if (hc : DT X M W c mt) (ha : DSs X M W es' s) (hb : DSs X M W es'' t) : DS X M W (.If c es' es'' pos) (sIf mt s t) := by
  obtain ⟨tc, pc, qc⟩ := hc
  obtain ⟨t1, p1, q1⟩ := ha
  obtain ⟨t2, p2, q2⟩ := hb
  refine ⟨_, ps_if pc p1 p2, fun σ H F ρ E sm h => ?_⟩
  refine qc σ H F ρ _ sm (PostT.goS h fun c ρ1 F1 H1 _ st1 sm1 h1 => ?_)
  cases c with
  | true => exact q1 σ H1 F1 ρ1 E sm1 (PostS.from st1 h1)
  | false => exact q2 σ H1 F1 ρ1 E sm1 (PostS.from st1 h1)
def stow (ρ : SE) (i : Nat) (sv : SV) : R Unit := match ρ[i]? with
  | some (.ow true _) => .bad
  | some _ => .ok () (ρ.set i sv)
  | none => .bad
def asSV (r : RV) (ρ : SE) : R SV := match r with
  | .im d => .ok (.im d) ρ
  | .ow oc => .ok (.ow false oc) ρ
  | .bo i => match ρ[i]? with
    | some (.ow false oc) => .ok (.im oc.D) (ρ.set i (.im oc.D))
    | _ => .bad
  | .ot _ _ => .bad
  | .bt _ _ => .bad
def SvOk (M : Mx) (H0 F H : Hp) (σ : L2.St) (ρ : SE) (v : V) : SV → Prop
  | .no => False
  | .im d => Rep M F v d
  | .ow false oc => ∃ a o, v = .ref a ∧ H a = some o ∧ F a = none ∧ OcRep M F o oc ∧ ¬ Own σ ρ a ∧ Fre H0 a
  | .ow true _ => False
theorem own_set' {i : Nat} {v : V} {sv : SV} {x : Addr} (h : Own (σ.set i (some v)) (ρ.set i sv) x) : Own σ ρ x ∨ (v = .ref x ∧ ∃ io ds, sv = .ow io ds) := by
  obtain ⟨j, ⟨io, ds, e⟩, e2⟩ := h
  by_cases hj : j = i
  · subst hj
    refine .inr ⟨?_, io, ds, (set_eq e).symm⟩
    rw [List.getElem?_set] at e2
    simp only [if_true] at e2
    split at e2
    · cases e2
      rfl
    · cases e2
  · rw [set_ne hj] at e
    rw [List.getElem?_set_ne (Ne.symm hj)] at e2
    exact .inl ⟨j, ⟨io, ds, e⟩, e2⟩
theorem stow_ok {F0 : Hp} {σ0 : L2.St} {ρ0 : SE} {i : Nat} {v : V} {sv : SV} {ρ2 : SE} (st : Stp F0 H0 σ0 ρ0 F H σ ρ) (ok : SvOk M H0 F H σ ρ v sv) (sm : Sim M F H σ ρ) (e : stow ρ i sv = .ok () ρ2) :
    Stp F0 H0 σ0 ρ0 F H (σ.set i (some v)) ρ2 ∧ Sim M F H (σ.set i (some v)) ρ2 := by
  have hi : ρ2 = ρ.set i sv ∧ i < ρ.length ∧ ∀ ds, ρ[i]? ≠ some (.ow true ds) := by
    unfold stow at e
    split at e
    · cases e
    · rename_i x hn e1
      cases e
      refine ⟨rfl, ?_, fun ds z => ?_⟩
      · exact (List.getElem?_eq_some_iff.mp e1).1
      · rw [e1] at z
        cases z
        exact hn ds rfl
    · cases e
  obtain ⟨rfl, hlt, hnio⟩ := hi
  have hio : ∀ ds, sv ≠ .ow true ds := fun ds z => by
    subst z
    exact ok
  have hlt' : i < σ.length := by
    rw [sm.len]
    exact hlt
  refine ⟨⟨st.same, st.keep, fun b z => ?_, st.newF, st.dom, fun j ds z => ?_, fun j ds z => ?_⟩, ⟨sm.sub0, sm.tabs, by rw [List.length_set, List.length_set]; exact sm.len, fun j d z => ?_, fun j io ds z => ?_, fun j l b hj hl z1 z2 => ?_⟩⟩
  · rcases own_set' z with z | ⟨z1, io, ds, z2⟩
    · exact st.new b z
    · subst z2 z1
      cases io with
      | true => exact (hio ds rfl).elim
      | false =>
        obtain ⟨a, vs, e1, h1, h2, h3, h4, h5⟩ := ok
        cases e1
        exact .inr h5
  · obtain ⟨e1, ds', e2⟩ := st.io j ds z
    have hj : j ≠ i := fun q => by
      subst q
      exact hnio ds' e2
    refine ⟨?_, ds', by rw [set_ne hj]; exact e2⟩
    rw [List.getElem?_set_ne (Ne.symm hj)]
    exact e1
  · by_cases hj : j = i
    · subst hj
      exact (hio ds (set_eq z).symm).elim
    · rw [set_ne hj] at z
      exact st.noio j ds z
  · by_cases hj : j = i
    · subst hj
      have z := (set_eq z).symm
      subst z
      exact ⟨v, by rw [List.getElem?_set_self hlt'], ok⟩
    · rw [set_ne hj] at z
      obtain ⟨u, e1, r⟩ := sm.im j d z
      exact ⟨u, by rw [List.getElem?_set_ne (Ne.symm hj)]; exact e1, r⟩
  · by_cases hj : j = i
    · subst hj
      have z := (set_eq z).symm
      subst z
      cases io with
      | true => exact ok.elim
      | false =>
        obtain ⟨a, vs, e1, h1, h2, h3, h4, h5⟩ := ok
        subst e1
        exact ⟨a, vs, by rw [List.getElem?_set_self hlt'], h1, h2, h3⟩
    · rw [set_ne hj] at z
      obtain ⟨b, ws, e1, e2, e3, e4⟩ := sm.ow j io ds z
      exact ⟨b, ws, by rw [List.getElem?_set_ne (Ne.symm hj)]; exact e1, e2, e3, e4⟩
  · -- two slots of one list
    have one : ∀ l : Nat, isOw (ρ.set i sv) l → (σ.set i (some v))[l]? = some (some (V.ref b)) → l = i → ¬ Own σ ρ b := fun l hl zl el => by
      subst el
      obtain ⟨io, ds, q⟩ := hl
      have q := (set_eq q).symm
      subst q
      rw [List.getElem?_set_self hlt'] at zl
      cases zl
      cases io with
      | true => exact ok.elim
      | false =>
        obtain ⟨a, vs, e1, h1, h2, h3, h4, h5⟩ := ok
        cases e1
        exact h4
    have old : ∀ l : Nat, isOw (ρ.set i sv) l → (σ.set i (some v))[l]? = some (some (V.ref b)) → l ≠ i → isOw ρ l ∧ σ[l]? = some (some (V.ref b)) := fun l ⟨io, ds, q⟩ zl el => by
      rw [set_ne el] at q
      rw [List.getElem?_set_ne (Ne.symm el)] at zl
      exact ⟨⟨io, ds, q⟩, zl⟩
    by_cases ej : j = i
    · by_cases el : l = i
      · rw [ej, el]
      · obtain ⟨o1, o2⟩ := old l hl z2 el
        exact (one j hj z1 ej ⟨l, o1, o2⟩).elim
    · by_cases el : l = i
      · obtain ⟨o1, o2⟩ := old j hj z1 ej
        exact (one l hl z2 el ⟨j, o1, o2⟩).elim
      · obtain ⟨o1, o2⟩ := old l hl z2 el
        obtain ⟨o3, o4⟩ := old j hj z1 ej
        exact sm.inj j l b o3 o1 o4 o2
theorem asSV_ok {F0 : Hp} {ρ0 : SE} {r : RV} {v : V} {sv : SV} {ρ2 : SE} (st : Stp F0 H0 σ ρ0 F H σ ρ) (ok : RvOk M H0 F H σ ρ v r) (sm : Sim M F H σ ρ) (e : asSV r ρ = .ok sv ρ2) :
    ∃ F', Stp F0 H0 σ ρ0 F' H σ ρ2 ∧ Sim M F' H σ ρ2 ∧ SvOk M H0 F' H σ ρ2 v sv := by
  cases r with
  | im d =>
    cases e
    exact ⟨F, st, sm, ok⟩
  | ow ds =>
    cases e
    exact ⟨F, st, sm, ok⟩
  | ot ds d => cases e
  | bt k d => cases e
  | bo i =>
    have e : (match ρ[i]? with
      | some (.ow false oc) => R.ok (SV.im oc.D) (ρ.set i (.im oc.D))
      | _ => .bad) = .ok sv ρ2 := e
    split at e
    · rename_i ds hi
      cases e
      have e2 : fz (.bo i) ρ = .ok ds.D (ρ.set i (.im ds.D)) := by
        show (match ρ[i]? with
          | some (.ow false oc) => R.ok oc.D (ρ.set i (.im oc.D))
          | _ => .bad) = _
        rw [hi]
      obtain ⟨F', a, b, c, _⟩ := fz_ok st ok sm e2
      exact ⟨F', a, b, c⟩
    · cases e
def sSet (i : Nat) (m : DM RV) : DM Fl := fun ρ => ((m ρ).bind asSV).bind fun sv ρ1 => (stow ρ1 i sv).bind fun _ ρ2 => .ok .nx ρ2
theorem asSV_ex {r : RV} {x : Exc} {ρ2 : SE} (e : asSV r ρ = .ex x ρ2) : False := by
  cases r with
  | im d => cases e
  | ow ds => cases e
  | ot ds d => cases e
  | bt k d => cases e
  | bo i =>
    have e : (match ρ[i]? with
      | some (.ow false oc) => R.ok (SV.im oc.D) (ρ.set i (.im oc.D))
      | _ => .bad) = .ex x ρ2 := e
    split at e <;> cases e
theorem stow_ex {i : Nat} {sv : SV} {x : Exc} {ρ2 : SE} (e : stow ρ i sv = .ex x ρ2) : False := by
  unfold stow at e
  split at e <;> cases e
theorem q_set {te : TE} {i : Nat} (q : ∀ σ H F ρ Q, Sim M F H σ ρ → Post M W σ ρ F H (m ρ) Q → te σ H Q) : ∀ σ H F ρ E, Sim M F H σ ρ → PostS M W σ ρ F H (sSet i m ρ) E → tAsg te (gName i) E σ H := fun σ H F ρ E sm h => by
  refine q σ H F ρ _ sm ?_
  cases e : m ρ with
  | bad =>
    unfold sSet at h
    rw [e] at h
    exact h
  | ex x ρ1 =>
    unfold sSet at h
    rw [e] at h
    exact fun F' H' cls d st sm ok => h F' H' σ cls d st sm ok
  | ok r ρ1 =>
    intro F1 H1 v st1 sm1 ok1
    unfold sSet at h
    rw [e] at h
    have h : PostS M W σ ρ F H ((asSV r ρ1).bind fun sv ρ1 => (stow ρ1 i sv).bind fun _ ρ2 => .ok .nx ρ2) E := h
    cases e2 : asSV r ρ1 with
    | bad =>
      rw [e2] at h
      exact h.elim
    | ex x ρ2 => exact (asSV_ex e2).elim
    | ok sv ρ2 =>
      rw [e2] at h
      obtain ⟨F2, st2, sm2, ok2⟩ := asSV_ok st1 ok1 sm1 e2
      have h : PostS M W σ ρ F H ((stow ρ2 i sv).bind fun _ ρ2 => .ok .nx ρ2) E := h
      cases e3 : stow ρ2 i sv with
      | bad =>
        rw [e3] at h
        exact h.elim
      | ex x ρ2 => exact (stow_ex e3).elim
      | ok u ρ3 =>
        rw [e3] at h
        obtain ⟨st3, sm3⟩ := stow_ok st2 ok2 sm2 e3
        exact h F2 H1 _ st3 sm3
theorem ds_set {i : Nat} {x : Str} {pos' : Pos} (he : DE X M W e m) (hN : X.N.Nodup) (hi : X.N[i]? = some x := by rfl) (hx : Loc X.env.scope x := by first | exact Or.inl rfl | exact Or.inr rfl) (hs : swapsWith e (some (.Name x pos')) pos.line X.env = pure false := by rfl)
    (hf : X.fn x = true ∨ X.env.scope.names.lookup x = some .local := by first | exact .inl rfl | exact .inr rfl) : DS X M W (.Assign [.Name x pos'] e pos) (sSet i m) := by
  obtain ⟨t, p, q⟩ := he
  exact ⟨_, ps_set hN hi hx p hs hf, q_set q⟩
end
end DL

/- part -/
set_option Elab.async false
set_option linter.all false
set_option maxRecDepth 100000
set_option maxHeartbeats 4000000
namespace DL
open PySem PySem.Spec PyProof.Rows L2
section
variable {M : Mx} {W : WX} {X : Cx} {F H F' H' F1 H1 H0 : Hp} {σ : L2.St} {ρ ρ1 : SE}
variable {a b c e : Expr} {ma mb mc m : DM RV} {mt mu : DM Bool} {ms : DM (List AV)} {es : List Expr} {pos : Pos} {s t : DM Fl}
theorem tabs_updG {T : List (Addr × Str)} {x : Addr} {o o' : HO} {oc : OC} (h : H x = some o) (r : OcRep M F o oc) (t : LamX.Tabs T H) : LamX.Tabs T (upd H x o') := fun p hp => by
  obtain ⟨ps, h1, h2, h3⟩ := t p hp
  refine ⟨ps, ?_, h2, fun pos cv hc => ?_⟩
  · rw [upd_ne]
    · exact h1
    · intro z
      rw [z, h] at h1
      cases h1
      cases r
  · obtain ⟨c, e1, e2⟩ := h3 pos cv hc
    refine ⟨c, e1, ?_⟩
    rw [upd_ne]
    · exact e2
    · intro z
      rw [z, h] at e2
      exact r.nc (Option.some.inj e2)
theorem upd_okG {F0 : Hp} {σ0 : L2.St} {ρ0 : SE} {i : Nat} {io : Bool} {ds es : OC} {x : Addr} {o' : HO} (st : Stp F0 H0 σ0 ρ0 F H σ ρ) (sm : Sim M F H σ ρ) (hi : ρ[i]? = some (.ow io ds)) (hx : σ[i]? = some (some (V.ref x))) (r : OcRep M F o' es) :
    Stp F0 H0 σ0 ρ0 F (upd H x o') σ (ρ.set i (.ow io es)) ∧ Sim M F (upd H x o') σ (ρ.set i (.ow io es)) := by
  obtain ⟨a, vs, e1, h1, h2, h3⟩ := sm.ow i io ds hi
  rw [hx] at e1
  cases e1
  have hown : Own σ ρ x := ⟨i, ⟨io, ds, hi⟩, hx⟩
  have lt : i < ρ.length := (List.getElem?_eq_some_iff.mp hi).1
  have back : ∀ j, isOw (ρ.set i (.ow io es)) j → isOw ρ j := fun j ⟨q, d, e⟩ => by
    by_cases hj : j = i
    · subst hj
      exact ⟨io, ds, hi⟩
    · rw [set_ne hj] at e
      exact ⟨q, d, e⟩
  have owb : ∀ y, Own σ (ρ.set i (.ow io es)) y → Own σ ρ y := fun y ⟨j, o, e⟩ => ⟨j, back j o, e⟩
  refine ⟨⟨st.same, fun b o hb n nt => ?_, fun b z => st.new b (owb b z), st.newF, fun b z => ?_, fun j d z => ?_, fun j d z => ?_⟩, ⟨⟨⟨fun b o hb nb => ?_, fun b n vs hb => ?_⟩, sm.ntb⟩, tabs_updG h1 h3 sm.tabs, by rw [List.length_set]; exact sm.len, fun j d z => ?_, fun j q d z => ?_, fun j l y o1 o2 => sm.inj j l y (back j o1) (back l o2)⟩⟩
  · rw [upd_ne]
    · exact st.keep b o hb n nt
    · intro z
      subst z
      rcases st.new b hown with z | z
      · exact n z
      · exact z.no hb nt
  · exact st.dom b (z.back r.nt)
  · obtain ⟨e1, d', e2⟩ := st.io j d z
    refine ⟨e1, ?_⟩
    by_cases hj : j = i
    · subst hj
      rw [hi] at e2
      cases e2
      exact ⟨es, by rw [List.getElem?_set_self lt]⟩
    · exact ⟨d', by rw [set_ne hj]; exact e2⟩
  · by_cases hj : j = i
    · subst hj
      have e := (set_eq z).symm
      cases e
      exact st.noio j ds hi
    · rw [set_ne hj] at z
      exact st.noio j d z
  · rw [upd_ne]
    · exact sm.sub.go b o hb nb
    · intro z
      subst z
      rw [h2] at hb
      cases hb
  · rw [upd_ne]
    · exact sm.sub.bk b n vs hb
    · intro z
      subst z
      rw [h2] at hb
      cases hb
  · by_cases hj : j = i
    · subst hj
      cases set_eq z
    · rw [set_ne hj] at z
      exact sm.im j d z
  · by_cases hj : j = i
    · subst hj
      have e := (set_eq z).symm
      cases e
      exact ⟨x, o', hx, upd_same, h2, r⟩
    · rw [set_ne hj] at z
      obtain ⟨b, us, e1, e2, e3, e4⟩ := sm.ow j q d z
      refine ⟨b, us, e1, ?_, e3, e4⟩
      rw [upd_ne]
      · exact e2
      · intro q2
        subst q2
        exact hj (sm.inj j i _ ⟨q, d, z⟩ ⟨io, ds, hi⟩ e1 hx)
theorem upd_ok {F0 : Hp} {σ0 : L2.St} {ρ0 : SE} {i : Nat} {io : Bool} {ds es : List D} {x : Addr} {ws : List V} (st : Stp F0 H0 σ0 ρ0 F H σ ρ) (sm : Sim M F H σ ρ) (hi : ρ[i]? = some (.ow io (.ls ds))) (hx : σ[i]? = some (some (V.ref x))) (r : Reps M F ws es) :
    Stp F0 H0 σ0 ρ0 F (upd H x (.lst ws)) σ (ρ.set i (.ow io (.ls es))) ∧ Sim M F (upd H x (.lst ws)) σ (ρ.set i (.ow io (.ls es))) := upd_okG st sm hi hx (.ls r)
def lmD (i : Nat) (g : List D → List D → Option (D × List D)) (ms : DM (List AV)) : DM RV := fun ρ => match ρ[i]? with
  | some (.ow _ (.ls _)) => (ms ρ).bind fun as ρ1 => match ρ1[i]?, avD as with
    | some (.ow io (.ls ds)), some xs => match g ds xs with
      | some (d, es) => .ok (.im d) (ρ1.set i (.ow io (.ls es)))
      | none => .bad
    | _, _ => .bad
  | _ => .bad
def LmOk (M : Mx) (r : V → List V → Hp → VK → Prop) (g : List D → List D → Option (D × List D)) : Prop := ∀ (F H : Hp) (x : Addr) (vs us : List V) (ds xs : List D) (d : D) (es : List D) (Q : VK), H x = some (.lst vs) → Reps M F vs ds → Reps M F us xs → g ds xs = some (d, es) →
  (∀ v ws, Rep M F v d → Reps M F ws es → Q v (upd H x (.lst ws))) → r (.ref x) us H Q
theorem q_lm {t : TA} {r : V → List V → Hp → VK → Prop} {g : List D → List D → Option (D × List D)} {i : Nat} (qs : ∀ σ H F ρ Q, Sim M F H σ ρ → PostA M W σ ρ F H (ms ρ) Q → t σ H Q) (o : LmOk M r g) : ∀ σ H F ρ Q, Sim M F H σ ρ → Post M W σ ρ F H (lmD i g ms ρ) Q → tBM M.K "list" r (tVar i) t σ H Q := fun σ H F ρ Q sm h => by
  unfold lmD at h
  split at h
  · rename_i io0 ds0 e0
    obtain ⟨x, vs0, e1, h1, _⟩ := sm.owl i io0 ds0 e0
    refine ⟨.ref x, e1, .inl ⟨rfl, vs0, .inl (.inl h1)⟩, qs σ H F ρ _ sm (PostA.goE h fun as ρ1 F1 H1 us _ st1 sm1 ok1 h2 => ?_)⟩
    split at h2
    · rename_i io ds xs e3 e4
      split at h2
      · rename_i d es e5
        obtain ⟨y, vs, e6, h3, h4, h5⟩ := sm1.owl i io ds e3
        rw [e1] at e6
        cases e6
        refine o F1 H1 x vs us ds xs d es Q h3 h5 (avD_ok ok1 e4) e5 fun v ws rv rw' => ?_
        obtain ⟨st2, sm2⟩ := upd_ok st1 sm1 e3 e1 rw'
        exact h2 F1 _ v st2 sm2 rv
      · exact h2.elim
    · exact h2.elim
  · exact h.elim
def gAppend (ds xs : List D) : Option (D × List D) := match xs with
  | [d] => if ds.length < 1000000 then some (.non, ds ++ [d]) else none
  | _ => none
theorem lm_append : LmOk M rAppend gAppend := by
  intro F H x vs us ds xs d es Q hx r1 r2 hg k
  unfold gAppend at hg
  split at hg
  · obtain ⟨hc, e⟩ := some_ite hg
    cases e
    cases r2 with
    | cons r3 r4 =>
      cases r4
      exact ⟨x, vs, _, rfl, rfl, hx, by rw [r1.length]; exact szlt hc, k _ _ .non (r1.append (.cons r3 .nil))⟩
  · cases hg
def NoEx {α β : Type} (g : α → SE → R β) : Prop := ∀ d ρ x ρ', g d ρ ≠ .ex x ρ'
def But (sl : List Nat) (σ σ' : L2.St) : Prop := σ'.length = σ.length ∧ ∀ j, j ∉ sl → σ'[j]? = σ[j]?
def DG (X : Cx) (M : Mx) (tg : Expr) (sl : List Nat) (gm : D → SE → R Unit) : Prop := NoEx gm ∧ ∃ t, PG X tg t ∧ ∀ v d σ H F ρ (Q : L2.St → Hp → Prop), Sim M F H σ ρ → Rep M F v d →
  (∃ ρ', gm d ρ = .ok () ρ' ∧ ∀ σ', But sl σ σ' → (∀ F0 H0 σ0 ρ0, Stp F0 H0 σ0 ρ0 F H σ ρ → Stp F0 H0 σ0 ρ0 F H σ' ρ') → Sim M F H σ' ρ' → Q σ' H) → t v σ H Q
def DGs (X : Cx) (M : Mx) (ts : List Expr) (sl : List Nat) (gm : List D → SE → R Unit) : Prop := NoEx gm ∧ ∃ t, PGs X ts t ∧ ∀ vs ds σ H F ρ (Q : L2.St → Hp → Prop), Sim M F H σ ρ → Reps M F vs ds →
  (∃ ρ', gm ds ρ = .ok () ρ' ∧ ∀ σ', But sl σ σ' → (∀ F0 H0 σ0 ρ0, Stp F0 H0 σ0 ρ0 F H σ ρ → Stp F0 H0 σ0 ρ0 F H σ' ρ') → Sim M F H σ' ρ' → Q σ' H) → t vs σ H Q
def tgName (i : Nat) (d : D) (ρ : SE) : R Unit := stow ρ i (.im d)
def tgNil (ds : List D) (ρ : SE) : R Unit := match ds with
  | [] => .ok () ρ
  | _ => .bad
def tgCons (g : D → SE → R Unit) (gs : List D → SE → R Unit) (ds : List D) (ρ : SE) : R Unit := match ds with
  | d :: r => (g d ρ).bind fun _ ρ1 => gs r ρ1
  | [] => .bad
def tgTup (n : Nat) (gs : List D → SE → R Unit) (d : D) (ρ : SE) : R Unit := match d with
  | .tup ds => if ds.length = n then gs ds ρ else .bad
  | _ => .bad
theorem tgName_ex {i : Nat} : NoEx (tgName i) := fun d ρ x ρ' e => stow_ex e
theorem dg_name (i : Nat) {x : Str} (hN : X.N.Nodup) (hi : X.N[i]? = some x := by rfl) (hx : Loc X.env.scope x := by first | exact Or.inl rfl | exact Or.inr rfl) (hf : X.fn x = true ∨ X.env.scope.names.lookup x = some .local := by first | exact .inl rfl | exact .inr rfl) : DG X M (.Name x pos) [i] (tgName i) := by
  refine ⟨tgName_ex, _, pg_name hN hi hx hf, fun v d σ H F ρ Q sm r ⟨ρ', e, k⟩ => ?_⟩
  have ok : SvOk M H F H σ ρ v (.im d) := r
  exact k _ ⟨List.length_set .., fun j hj => by rw [List.getElem?_set_ne (fun z => hj (by rw [z]; exact List.mem_cons_self))]⟩ (fun F0 H0 σ0 ρ0 st => (stow_ok (sv := .im d) st r sm e).1) (stow_ok (Stp.refl _ _ _ _) ok sm e).2
theorem dgs_nil : DGs X M [] [] tgNil := by
  refine ⟨fun d ρ x ρ' e => ?_, _, pgs_nil, fun vs ds σ H F ρ Q sm r ⟨ρ', e, k⟩ => ?_⟩
  · cases d <;> cases e
  cases r with
  | nil =>
    cases e
    exact ⟨rfl, k σ ⟨rfl, fun _ _ => rfl⟩ (fun _ _ _ _ st => st) sm⟩
  | cons _ _ => cases e
variable {sl sl2 : List Nat} {tg : Expr} {tgs : List Expr} {gm : D → SE → R Unit} {gms : List D → SE → R Unit}
theorem R.bind_ok {α β : Type} {r : R α} {f : α → SE → R β} {b : β} {ρ' : SE} (h : r.bind f = .ok b ρ') : ∃ a ρ1, r = .ok a ρ1 ∧ f a ρ1 = .ok b ρ' := by
  cases r with
  | bad => cases h
  | ok a ρ1 => exact ⟨a, ρ1, rfl, h⟩
  | ex e ρ1 => cases h
theorem dgs_cons (h1 : DG X M tg sl gm) (h2 : DGs X M tgs sl2 gms) (hs : (assignEach (tg :: tgs) X.env).map (·.2) = assign tg X.env :: (assignEach tgs X.env).map (·.2) := by rfl) : DGs X M (tg :: tgs) (sl ++ sl2) (tgCons gm gms) := by
  obtain ⟨x1, t1, p1, q1⟩ := h1
  obtain ⟨x2, t2, p2, q2⟩ := h2
  refine ⟨fun d ρ x ρ' e => ?_, _, pgs_cons p1 p2 hs, fun vs ds σ H F ρ Q sm r ⟨ρ', e, k⟩ => ?_⟩
  · cases d with
    | nil => cases e
    | cons d ds =>
      have e : (gm d ρ).bind (fun _ ρ1 => gms ds ρ1) = .ex x ρ' := e
      cases e1 : gm d ρ with
      | bad =>
        rw [e1] at e
        cases e
      | ex y ρ1 => exact x1 _ _ _ _ e1
      | ok u ρ1 =>
        rw [e1] at e
        exact x2 _ _ _ _ e
  cases r with
  | nil => cases e
  | @cons v vs d ds r rs =>
    obtain ⟨_, ρ1, e1, e2⟩ := R.bind_ok (show (gm d ρ).bind (fun _ ρ1 => gms ds ρ1) = _ from e)
    refine ⟨v, vs, rfl, q1 v d σ H F ρ _ sm r ⟨ρ1, e1, fun σ1 bu1 st1 sm1 => ?_⟩⟩
    exact q2 vs ds σ1 H F ρ1 Q sm1 rs ⟨ρ', e2, fun σ2 bu2 st2 sm2 => k σ2 ⟨bu2.1.trans bu1.1, fun j hj => (bu2.2 j fun z => hj (List.mem_append_right _ z)).trans (bu1.2 j fun z => hj (List.mem_append_left _ z))⟩ (fun F0 H0 σ0 ρ0 st => st2 _ _ _ _ (st1 _ _ _ _ st)) sm2⟩
theorem dg_tup {k : Nat} {n : Nat} (hc : X.calm = true) (h : DGs X M tgs sl gms) (hn : (assignEach tgs X.env).length = n := by rfl) (hst : (assignEach tgs X.env).findIdx? (·.1) = none := by rfl) (hK : M.K = X.K := by rfl) : DG X M (.Tuple tgs k pos) sl (tgTup n gms) := by
  obtain ⟨x1, t, p, q⟩ := h
  refine ⟨fun d ρ x ρ' e => ?_, _, pg_tup hc p hn hst, fun v d σ H F ρ Q sm r ⟨ρ', e, kk⟩ => ?_⟩
  · unfold tgTup at e
    split at e
    · split at e
      · exact x1 _ _ _ _ e
      · cases e
    · cases e
  cases r with
  | @tup a vs ds h1 h2 =>
    have e : (if ds.length = n then gms ds ρ else .bad) = .ok () ρ' := e
    split at e
    · rename_i hl
      exact ⟨_, _, rfl, by rw [← hK]; exact sm.sub.sqT h1, by rw [h2.length]; exact hl, q _ _ σ H F ρ Q sm h2 ⟨ρ', e, kk⟩⟩
    · cases e
  | _ => cases e
theorem gm_ok {α : Type} {gm : D → SE → R Unit} {f : Unit → SE → R α} {d : D} {ρ1 : SE} {P : R α → Prop} (hx : NoEx gm) (hb : P .bad → False) (h : P ((gm d ρ1).bind f)) : ∃ ρ2, gm d ρ1 = .ok () ρ2 ∧ P (f () ρ2) := by
  cases e : gm d ρ1 with
  | bad =>
    rw [e] at h
    exact (hb h).elim
  | ok u ρ2 =>
    rw [e] at h
    exact ⟨ρ2, rfl, h⟩
  | ex x ρ2 => exact (hx _ _ _ _ e).elim
def sPar (i j : Nat) (ms : DM (List AV)) : DM Fl := fun ρ => (ms ρ).bind fun as ρ1 => match as with
  | [.d d, .d e] => (stow ρ1 i (.im d)).bind fun _ ρ2 => (stow ρ2 j (.im e)).bind fun _ ρ3 => .ok .nx ρ3
  | _ => .bad
theorem PostA.goS {r : R (List AV)} {E : Ends} {g : List AV → SE → R Fl} (h : PostS M W σ ρ F H (r.bind g) E) {Q' : List V → Hp → Prop}
    (k : ∀ a ρ1 F1 H1 v, r = .ok a ρ1 → Stp F H σ ρ F1 H1 σ ρ1 → Sim M F1 H1 σ ρ1 → AvsOk M F1 σ ρ1 v a → PostS M W σ ρ F H (g a ρ1) E → Q' v H1) : PostA M W σ ρ F H r Q' := by
  cases r with
  | bad => exact h
  | ok a ρ1 => exact fun F1 H1 v st sm ok => k a ρ1 F1 H1 v rfl st sm ok h
  | ex e ρ1 => exact fun F' H' cls d st sm ok => h F' H' σ cls d st sm ok
theorem ds_par {i j : Nat} {x y : Str} {px py pt : Pos} {kt k2 pt2} (ha : DA X M W [a, b] ms) (hc : X.calm = true) (hN : X.N.Nodup) (hi : X.N[i]? = some x := by rfl) (hj : X.N[j]? = some y := by rfl) (hij : i ≠ j := by decide)
    (hx : X.env.scope.names.lookup x = some .local := by rfl) (hy : X.env.scope.names.lookup y = some .local := by rfl)
    (hw : swappedStores [.Tuple [.Name x px, .Name y py] kt pt] (.Tuple [a, b] k2 pt2) X.env = pure (some [x, y]) := by rfl)
    (hs : swapsWithSole [.Tuple [.Name x px, .Name y py] kt pt] (.Tuple [a, b] k2 pt2) pos.line X.env = pure false := by rfl) : DS X M W (.Assign [.Tuple [.Name x px, .Name y py] kt pt] (.Tuple [a, b] k2 pt2) pos) (sPar i j ms) := by
  obtain ⟨t, p, q⟩ := ha
  refine ⟨_, ps_par hc hN hi hj hij hx hy p hw hs, fun σ H F ρ E sm h => ?_⟩
  refine q σ H F ρ _ sm (PostA.goS h fun as ρ1 F1 H1 vs e0 st1 sm1 ok1 h1 => ?_)
  clear e0
  split at h1
  · rename_i d e
    cases ok1 with
    | cons r1 ok1 =>
      cases ok1 with
      | cons r2 ok1 =>
        cases ok1
        rename_i v w
        have r1 : Rep M F1 v d := r1
        have r2 : Rep M F1 w e := r2
        obtain ⟨ρ2, e2, h2⟩ := gm_ok (gm := fun d ρ => stow ρ i (.im d)) (d := d) (P := fun r => PostS M W σ ρ F H r E) (fun _ _ _ _ z => stow_ex z) (fun z => z) h1
        obtain ⟨ρ3, e3, h3⟩ := gm_ok (gm := fun d ρ => stow ρ j (.im d)) (d := e) (P := fun r => PostS M W σ ρ F H r E) (fun _ _ _ _ z => stow_ex z) (fun z => z) h2
        obtain ⟨st2, sm2⟩ := stow_ok (v := v) (sv := .im d) st1 r1 sm1 e2
        obtain ⟨st3, sm3⟩ := stow_ok (v := w) (sv := .im e) st2 r2 sm2 e3
        exact ⟨v, w, rfl, h3 F1 H1 _ st3 sm3⟩
  · exact h1.elim
def sSub (i : Nat) (mk me : DM RV) : DM Fl := fun ρ => (dFz me ρ).bind fun d ρ1 => match ρ1[i]? with
  | some (.ow _ (.ls _)) => (mk ρ1).bind fun r ρ2 => match ρ2[i]?, r with
    | some (.ow io (.ls ds)), .im (.int k) => match ixN ds.length k with
      | some j => .ok .nx (ρ2.set i (.ow io (.ls (ds.set j d))))
      | none => .bad
    | _, _ => .bad
  | _ => .bad
theorem ds_sub {k : Expr} {mk : DM RV} {i : Nat} {x : Str} {p' tpos : Pos} (he : DE X M W e m) (hk : DE X M W k mk) (hN : X.N[i]? = some x := by rfl) (hv : Vis X.env.scope x := by first | exact Or.inl rfl | exact Or.inr (Or.inl rfl) | exact Or.inr (Or.inr rfl)) (hd : (x == ("__debug__" : Str)) = false := by decide)
    (hcd : (x == ("__classdict__" : Str)) = false := by decide)
    (ha : ∀ v, assign (.Subscript (.Name x p') k tpos) X.env v = (do
      let ov ← holding [v] (eval (.Name x p') X.env)
      let iv ← holding [v, ov] (eval k X.env)
      standAt tpos
      holding [v, ov, iv] (setItem ov iv v)
      release [v, ov, iv] []) := by intro _; rfl) (hs : swapsWithSole [.Subscript (.Name x p') k tpos] e pos.line X.env = pure false := by rfl) (hw : swappedStores [.Subscript (.Name x p') k tpos] e X.env = pure none := by rfl)
    (h1 : (assignEach [.Subscript (.Name x p') k tpos] X.env).map (·.2) = [assign (.Subscript (.Name x p') k tpos) X.env] := by rfl) : DS X M W (.Assign [.Subscript (.Name x p') k tpos] e pos) (sSub i mk m) := by
  obtain ⟨t, p, q⟩ := he
  obtain ⟨tk, pk, qk⟩ := hk
  refine ⟨_, ps_asg p (pg_sub (pe_var hN hv hd hcd) pk set_list ha) hs hw h1, fun σ H F ρ E sm h => ?_⟩
  refine q σ H F ρ _ sm (PostD.go (PostD.step (P := fun r => PostS M W σ ρ F H r E) (fun z => z) (fun e ρ' z F' H' cls d st sm ok => z F' H' σ cls d st sm ok) h fun d ρ1 F1 H1 v st1 sm1 r1 h1 => ?_))
  split at h1
  · rename_i io0 ds0 e0
    obtain ⟨y, vs0, e1, _⟩ := sm1.owl i io0 ds0 e0
    refine ⟨.ref y, e1, qk σ H1 F1 ρ1 _ sm1 (Post.goS (PostS.from st1 h1) fun r ρ2 F2 H2 u e2 st2 sm2 ok2 h2 => ?_)⟩
    clear e2
    split at h2
    · rename_i io ds kk e3
      split at h2
      · rename_i j e4
        obtain ⟨z, vs, e5, h3, h4, h5⟩ := sm2.owl i io ds e3
        rw [e1] at e5
        cases e5
        cases ok2
        refine ⟨y, vs, kk, j, rfl, rfl, h3, by rw [h5.length]; exact e4, ?_⟩
        obtain ⟨st3, sm3⟩ := upd_ok st2 sm2 e3 e1 (Reps.set (r1.up st2.same) j h5)
        exact h2 F2 _ σ st3 sm3
      · exact h2.elim
    · exact h2.elim
  · exact h1.elim
theorem tgNil_ex : NoEx tgNil := fun d ρ x ρ' e => by
  cases d <;> cases e
theorem tgCons_ex {g : D → SE → R Unit} {gs : List D → SE → R Unit} (h1 : NoEx g) (h2 : NoEx gs) : NoEx (tgCons g gs) := fun d ρ x ρ' e => by
  cases d with
  | nil => cases e
  | cons d ds =>
    have e : (g d ρ).bind (fun _ ρ1 => gs ds ρ1) = .ex x ρ' := e
    cases e1 : g d ρ with
    | bad =>
      rw [e1] at e
      cases e
    | ex y ρ1 => exact h1 _ _ _ _ e1
    | ok u ρ1 =>
      rw [e1] at e
      exact h2 _ _ _ _ e
theorem tgTup_ex {n : Nat} {gs : List D → SE → R Unit} (h : NoEx gs) : NoEx (tgTup n gs) := fun d ρ x ρ' e => by
  unfold tgTup at e
  split at e
  · split at e
    · exact h _ _ _ _ e
    · cases e
  · cases e
end
end DL

/- part -/
set_option Elab.async false
set_option linter.all false
set_option maxRecDepth 100000
set_option maxHeartbeats 4000000
namespace DL
open PySem PySem.Spec PyProof.Rows L2
section
variable {M : Mx} {W : WX} {X : Cx} {F H F' H' F1 H1 H0 : Hp} {σ : L2.St} {ρ ρ1 : SE}
variable {a b c e : Expr} {ma mb mc m : DM RV} {mt mu : DM Bool} {ms : DM (List AV)} {es : List Expr} {pos : Pos} {s t : DM Fl}
def wloop (c : DM Bool) (b : DM Fl) : Nat → SE → R Fl
  | 0, _ => .bad
  | n + 1, ρ => (c ρ).bind fun k ρ1 => if k = true then (b ρ1).bind fun f ρ2 => match f with
      | .nx => wloop c b n ρ2
      | .ct => wloop c b n ρ2
      | .bk => .ok .nx ρ2
      | .rt r => .ok (.rt r) ρ2
    else .ok .nx ρ1
def isBad {α : Type} : R α → Bool
  | .bad => true
  | _ => false
open Classical in
noncomputable def sWhile (c : DM Bool) (b : DM Fl) : DM Fl := fun ρ => if h : ∃ n, isBad (wloop c b n ρ) = false then wloop c b (Classical.choose h) ρ else .bad
theorem wloop_up {c : DM Bool} {b : DM Fl} : ∀ (n : Nat) (ρ : SE), isBad (wloop c b n ρ) = false → wloop c b (n + 1) ρ = wloop c b n ρ
  | 0, ρ, h => by cases h
  | n + 1, ρ, h => by
    unfold wloop at h ⊢
    cases e : c ρ with
    | bad => rfl
    | ex x ρ1 => rfl
    | ok k ρ1 =>
      rw [e] at h
      show (if k = true then _ else _) = (if k = true then _ else _)
      have h : isBad (if k = true then (b ρ1).bind fun f ρ2 => match f with
          | .nx => wloop c b n ρ2
          | .ct => wloop c b n ρ2
          | .bk => .ok .nx ρ2
          | .rt r => .ok (.rt r) ρ2
        else .ok .nx ρ1) = false := h
      cases k with
      | false => rfl
      | true =>
        rw [if_pos rfl] at h ⊢
        rw [if_pos rfl]
        cases e2 : b ρ1 with
        | bad => rfl
        | ex x ρ2 => rfl
        | ok f ρ2 =>
          rw [e2] at h
          cases f with
          | nx => exact wloop_up n ρ2 h
          | ct => exact wloop_up n ρ2 h
          | bk => rfl
          | rt r => rfl
theorem wloop_le {c : DM Bool} {b : DM Fl} {n : Nat} {ρ : SE} (h : isBad (wloop c b n ρ) = false) : ∀ k, wloop c b (n + k) ρ = wloop c b n ρ
  | 0 => rfl
  | k + 1 => by
    have ih := wloop_le h k
    rw [← ih] at h
    rw [← ih]
    exact wloop_up (n + k) ρ h
theorem sWhile_of {c : DM Bool} {b : DM Fl} {n : Nat} {ρ : SE} (h : isBad (wloop c b n ρ) = false) : sWhile c b ρ = wloop c b n ρ := by
  unfold sWhile
  have hx : ∃ n, isBad (wloop c b n ρ) = false := ⟨n, h⟩
  rw [dif_pos hx]
  have h2 := Classical.choose_spec hx
  generalize Classical.choose hx = k at h2 ⊢
  rw [← wloop_le h k, ← wloop_le h2 n, Nat.add_comm]
theorem sWhile_ex {c : DM Bool} {b : DM Fl} {ρ : SE} (h : isBad (sWhile c b ρ) = false) : ∃ n, sWhile c b ρ = wloop c b n ρ ∧ isBad (wloop c b n ρ) = false := by
  unfold sWhile at h ⊢
  split at h
  · rename_i hx
    rw [dif_pos hx]
    exact ⟨_, rfl, h⟩
  · cases h
theorem sWhile_eq (c : DM Bool) (b : DM Fl) (ρ : SE) : sWhile c b ρ = (c ρ).bind fun k ρ1 => if k = true then (b ρ1).bind fun f ρ2 => match f with
      | .nx => sWhile c b ρ2
      | .ct => sWhile c b ρ2
      | .bk => .ok .nx ρ2
      | .rt r => .ok (.rt r) ρ2
    else .ok .nx ρ1 := by
  cases e : c ρ with
  | bad =>
    unfold sWhile
    rw [dif_neg]
    · rfl
    · rintro ⟨n, h⟩
      cases n with
      | zero => cases h
      | succ n =>
        unfold wloop at h
        rw [e] at h
        cases h
  | ex x ρ1 =>
    have e1 : wloop c b 1 ρ = .ex x ρ1 := by
      unfold wloop
      rw [e]
      rfl
    rw [sWhile_of (n := 1) (by rw [e1]; rfl), e1]
    rfl
  | ok k ρ1 =>
    have un : ∀ n, wloop c b (n + 1) ρ = if k = true then (b ρ1).bind fun f ρ2 => match f with
          | .nx => wloop c b n ρ2
          | .ct => wloop c b n ρ2
          | .bk => .ok .nx ρ2
          | .rt r => .ok (.rt r) ρ2
        else .ok .nx ρ1 := fun n => by
      rw [wloop, e]
      rfl
    show _ = if k = true then _ else _
    cases k with
    | false =>
      rw [sWhile_of (n := 1) (by rw [un]; rfl), un, if_neg Bool.false_ne_true, if_neg Bool.false_ne_true]
    | true =>
      rw [if_pos rfl]
      simp only [if_true] at un
      cases e2 : b ρ1 with
      | bad =>
        unfold sWhile
        rw [dif_neg]
        · rfl
        · rintro ⟨n, h⟩
          cases n with
          | zero => cases h
          | succ n =>
            rw [un, e2] at h
            cases h
      | ex x ρ2 =>
        rw [sWhile_of (n := 1) (by rw [un, e2]; rfl), un, e2]
        rfl
      | ok f ρ2 =>
        rw [e2] at un
        have go : (∀ n, wloop c b (n + 1) ρ = wloop c b n ρ2) → sWhile c b ρ = sWhile c b ρ2 := fun h => by
          by_cases hx : ∃ n, isBad (wloop c b n ρ2) = false
          · obtain ⟨n, hn⟩ := hx
            rw [sWhile_of hn, sWhile_of (n := n + 1) (by rw [h]; exact hn), h]
          · unfold sWhile
            rw [dif_neg hx, dif_neg]
            rintro ⟨n, h2⟩
            cases n with
            | zero => cases h2
            | succ n =>
              rw [h] at h2
              exact hx ⟨n, h2⟩
        cases f with
        | nx => exact go un
        | ct => exact go un
        | bk =>
          rw [sWhile_of (n := 1) (by rw [un]; rfl), un]
          rfl
        | rt r =>
          rw [sWhile_of (n := 1) (by rw [un]; rfl), un]
          rfl
theorem ds_while {body : List Stmt} (hp : PassesOwn (model X.prog X.w) X.A X.env X.xe) (hc : DT X M W c mt) (hb : DSs X M W body s) : DS X M W (.While c body [] pos) (sWhile mt s) := by
  obtain ⟨tc, pc, qc⟩ := hc
  obtain ⟨tb, pb, qb⟩ := hb
  refine ⟨_, ps_while hp pc pb, fun σ H F ρ E sm h => ?_⟩
  have nb : isBad (sWhile mt s ρ) = false := by
    cases e : sWhile mt s ρ with
    | bad =>
      rw [e] at h
      exact h.elim
    | _ => rfl
  obtain ⟨n, en, hn⟩ := sWhile_ex nb
  rw [en] at h
  refine ⟨fun k σ' H' => ∃ F' ρ', Sim M F' H' σ' ρ' ∧ PostS M W σ' ρ' F' H' (wloop mt s k ρ') E, ⟨n, F, ρ, sm, h⟩, ?_⟩
  rintro k σ1 H1 ⟨F1, ρ1, sm1, h1⟩
  cases k with
  | zero => exact h1.elim
  | succ k =>
    unfold wloop at h1
    refine qc σ1 H1 F1 ρ1 _ sm1 (PostT.goS h1 fun c ρ2 F2 H2 _ st2 sm2 h2 => ?_)
    cases c with
    | false =>
      rw [if_neg Bool.false_ne_true]
      exact h2 F2 H2 σ1 st2 sm2
    | true =>
      rw [if_pos rfl]
      refine ⟨fun σ' H' => ∃ F' ρ', Sim M F' H' σ' ρ' ∧ PostS M W σ' ρ' F' H' (wloop mt s k ρ') E, fun σ' H' q => ⟨k, Nat.lt_succ_self k, q⟩, ?_⟩
      refine qb σ1 H2 F2 ρ2 _ sm2 ?_
      rw [if_pos rfl] at h2
      have h3 := PostS.from st2 h2
      cases e : s ρ2 with
      | bad =>
        rw [e] at h3
        exact h3
      | ex x ρ3 =>
        rw [e] at h3
        exact h3
      | ok f ρ3 =>
        rw [e] at h3
        cases f with
        | nx => exact fun F3 H3 σ3 st3 sm3 => ⟨F3, ρ3, sm3, PostS.from st3 h3⟩
        | ct => exact fun F3 H3 σ3 st3 sm3 => ⟨F3, ρ3, sm3, PostS.from st3 h3⟩
        | bk => exact h3
        | rt r => exact h3
def ItOk (M : Mx) (J : It) (F1 : Hp) (ds : List D) : Prop := ∀ (i : Nat) F H, Same F1 F → SubF F H → (∀ d, ds[i]? = some d → J.go i H ∧ ∀ x H', J.yld i H x H' → ∃ F', Alc F H F' H' ∧ Rep M F' x d) ∧ (ds.length ≤ i → J.stop i H)
def PostI (M : Mx) (W : WX) (σ : L2.St) (ρ : SE) (F H : Hp) (r : R (List D)) (Q : It → Hp → Prop) : Prop := match r with
  | .bad => False
  | .ok ds ρ' => ∀ F' H' J, Stp F H σ ρ F' H' σ ρ' → Sim M F' H' σ ρ' → ItOk M J F' ds → Q J H'
  | .ex e ρ' => ∀ F' H' cls d, Stp F H σ ρ F' H' σ ρ' → Sim M F' H' σ ρ' → ExcOk M F' H' cls d e → W cls d σ H'
def DI (X : Cx) (M : Mx) (W : WX) (tg iter : Expr) (m : DM (List D)) : Prop := ∃ t, PI X tg iter t ∧ ∀ σ H F ρ Q, Sim M F H σ ρ → PostI M W σ ρ F H (m ρ) Q → t σ H Q
def floop (gm : D → SE → R Unit) (b : DM Fl) : List D → SE → R Fl
  | [], ρ => .ok .nx ρ
  | d :: ds, ρ => (gm d ρ).bind fun _ ρ1 => (b ρ1).bind fun f ρ2 => match f with
      | .nx => floop gm b ds ρ2
      | .ct => floop gm b ds ρ2
      | .bk => .ok .nx ρ2
      | .rt r => .ok (.rt r) ρ2
def sFor (mi : DM (List D)) (gm : D → SE → R Unit) (b : DM Fl) : DM Fl := fun ρ => (mi ρ).bind fun ds ρ1 => floop gm b ds ρ1
theorem ds_for {tg iter : Expr} {body : List Stmt} {mi : DM (List D)} {sl : List Nat} {gm : D → SE → R Unit} (hp : PassesOwn (model X.prog X.w) X.A X.env X.xe) (hc : X.calm = true) (hi : DI X M W tg iter mi) (hg : DG X M tg sl gm) (hb : DSs X M W body s)
    (hs : ∀ x, foldedSetIterable iter X.env x = pure x := by intro _; rfl) : DS X M W (.For tg iter body [] pos) (sFor mi gm s) := by
  obtain ⟨ti, pi, qi⟩ := hi
  obtain ⟨xg, tg', pg, qg⟩ := hg
  obtain ⟨tb, pb, qb⟩ := hb
  refine ⟨_, ps_for hp hc pi pg pb hs, fun σ H F ρ E sm h => ?_⟩
  refine qi σ H F ρ _ sm ?_
  unfold sFor at h
  cases e : mi ρ with
  | bad =>
    rw [e] at h
    exact h
  | ex x ρ1 =>
    rw [e] at h
    exact fun F' H' cls d st sm ok => h F' H' σ cls d st sm ok
  | ok ds ρ1 =>
    rw [e] at h
    intro F1 H1 J st1 sm1 it
    have h : PostS M W σ ρ F H (floop gm s ds ρ1) E := h
    refine ⟨fun i k σ' H' => k = ds.length - i ∧ i ≤ ds.length ∧ ∃ F' ρ', Same F1 F' ∧ Sim M F' H' σ' ρ' ∧ PostS M W σ' ρ' F' H' (floop gm s (ds.drop i) ρ') E, ⟨ds.length, by simp, Nat.zero_le _, F1, ρ1, Same.refl _, sm1, PostS.from st1 h⟩, ?_⟩
    rintro i k σ2 H2 ⟨rfl, hi, F2, ρ2, sa, sm2, h2⟩
    by_cases lt : i < ds.length
    · have ed : ds.drop i = ds[i] :: ds.drop (i + 1) := List.drop_eq_getElem_cons lt
      rw [ed] at h2
      obtain ⟨g1, g2⟩ := (it i F2 H2 sa sm2.sub).1 ds[i] (List.getElem?_eq_getElem lt)
      refine .inr ⟨g1, fun σ' H' => ∃ F' ρ', Same F1 F' ∧ Sim M F' H' σ' ρ' ∧ PostS M W σ' ρ' F' H' (floop gm s (ds.drop (i + 1)) ρ') E, fun σ' H' q => ⟨ds.length - (i + 1), by omega, rfl, lt, q⟩, fun x H' y => ?_⟩
      obtain ⟨F3, al, r⟩ := g2 x H' y
      have sm3 := sm2.alc al
      obtain ⟨ρ4, e4, h4⟩ := gm_ok (P := fun r => PostS M W σ2 ρ2 F2 H2 r E) xg (fun z => z) h2
      refine qg x ds[i] σ2 H' F3 ρ2 _ sm3 r ⟨ρ4, e4, fun σ4 _ st4 sm4 => ?_⟩
      have st5 := st4 _ _ _ _ (al.stp σ2 ρ2)
      refine qb σ4 H' F3 ρ4 _ sm4 ?_
      have h5 := PostS.from st5 h4
      have sa5 := sa.trans al.same
      cases e5 : s ρ4 with
      | bad =>
        rw [e5] at h5
        exact h5
      | ex x ρ6 =>
        rw [e5] at h5
        exact h5
      | ok f ρ6 =>
        rw [e5] at h5
        cases f with
        | nx => exact fun F6 H6 σ6 st6 sm6 => ⟨F6, ρ6, sa5.trans st6.same, sm6, PostS.from st6 h5⟩
        | ct => exact fun F6 H6 σ6 st6 sm6 => ⟨F6, ρ6, sa5.trans st6.same, sm6, PostS.from st6 h5⟩
        | bk => exact h5
        | rt r => exact h5
    · have e1 : i = ds.length := by omega
      subst e1
      refine .inl ⟨(it _ F2 H2 sa sm2.sub).2 (Nat.le_refl _), ?_⟩
      rw [List.drop_length] at h2
      exact h2 F2 H2 σ2 (Stp.refl _ _ _ _) sm2
def iSeqs (r : D) (ρ : SE) : R (List D) := match r with
  | .lst ds => .ok ds ρ
  | .tl _ ds => .ok ds ρ
  | .tup ds => .ok ds ρ
  | .scr ns => .ok (ns.map D.int) ρ
  | .str x => .ok (x.cps.toList.map fun c => D.str ⟨#[c]⟩) ρ
  | _ => .bad
def iSeq (m : DM RV) : DM (List D) := fun ρ => (dFz m ρ).bind iSeqs
theorem it_listG {a : Addr} {vs : List V} {ds : List D} (h : ∀ F2 H2, Same F F2 → SubF F2 H2 → H2 a = some (.lst vs)) (r : Reps M F vs ds) : ItOk M (Itl M.K a) F ds := fun i F2 H2 sa sub => by
  refine ⟨fun d hd => ?_, fun hl => ⟨vs, .inl (.inl (h F2 H2 sa sub)), by rw [r.length]; exact hl⟩⟩
  obtain ⟨v, h1, h2⟩ := r.get hd
  have hs : SqL M.K H2 a vs := .inl (.inl (h F2 H2 sa sub))
  refine ⟨⟨vs, v, hs, h1⟩, fun x H' y => ?_⟩
  obtain ⟨e, y⟩ := y
  subst e
  have e2 := y vs hs
  rw [h1] at e2
  cases e2
  exact ⟨F2, Alc.refl sub, h2.up sa⟩
theorem it_list {a : Addr} {vs : List V} {ds : List D} (h : F a = some (.lst vs)) (r : Reps M F vs ds) : ItOk M (Itl M.K a) F ds := it_listG (fun F2 H2 sa sub => sub.go _ _ (sa _ _ h)) r
theorem it_tl {a : Addr} {n : Nat} {vs : List V} {ds : List D} (h : F a = some (bw n vs)) (r : Reps M F vs ds) : ItOk M (Itl M.K a) F ds := it_listG (fun F2 H2 sa sub => sub.bk _ _ _ (sa _ _ h)) r
theorem it_tup {a : Addr} {vs : List V} {ds : List D} (h : SqT M.K F a vs) (r : Reps M F vs ds) : ItOk M (Itt M.K a) F ds := fun i F2 H2 sa sub => by
  have hs : SqT M.K H2 a vs := sub.sqT (same_sqT sa h)
  refine ⟨fun d hd => ?_, fun hl => ⟨vs, hs, by rw [r.length]; exact hl⟩⟩
  obtain ⟨v, h1, h2⟩ := r.get hd
  refine ⟨⟨vs, v, hs, h1⟩, fun x H' y => ?_⟩
  obtain ⟨e, y⟩ := y
  subst e
  have e2 := y vs hs
  rw [h1] at e2
  cases e2
  exact ⟨F2, Alc.refl sub, h2.up sa⟩
theorem it_scr {a : Addr} {ns : List Int} (h : SqL M.K F a (ns.map V.int)) : ItOk M (Itl M.K a) F (ns.map D.int) := fun i F2 H2 sa sub => by
  have hs : SqL M.K H2 a (ns.map V.int) := sub.sqL (same_sqL sa h)
  refine ⟨fun d hd => ?_, fun hl => ⟨_, hs, by rw [List.length_map] at hl ⊢; exact hl⟩⟩
  obtain ⟨v, h1, h2⟩ := (Reps.ofInts (M := M) (F := F2) ns).get hd
  refine ⟨⟨_, v, hs, h1⟩, fun x H' y => ?_⟩
  obtain ⟨e, y⟩ := y
  subst e
  have e2 := y _ hs
  rw [h1] at e2
  cases e2
  exact ⟨F2, Alc.refl sub, h2⟩
theorem it_str (x : Str) : ItOk M (Its x) F (x.cps.toList.map fun c => D.str ⟨#[c]⟩) := fun i F2 H2 sa sub => by
  refine ⟨fun d hd => ?_, fun hl => by
    rw [List.length_map, Array.length_toList] at hl
    exact hl⟩
  rw [List.getElem?_map] at hd
  obtain ⟨c, h1, h2⟩ := map_some hd
  subst h2
  have h3 : x.cps[i]? = some c := by
    rw [← h1]
    simp
  refine ⟨(Array.getElem?_eq_some_iff.mp h3).1, fun y H' z => ?_⟩
  obtain ⟨e, c', e2, e3⟩ := z
  subst e e3
  rw [h3] at e2
  cases e2
  exact ⟨F2, Alc.refl sub, .str _⟩
theorem PI.or {tg iter : Expr} {w1 w2 : TI} (h1 : PI X tg iter w1) (h2 : PI X tg iter w2) : PI X tg iter (fun σ H R => w1 σ H R ∨ w2 σ H R) := ⟨fun pins s σ H R I h => h.elim (h1.run pins s σ H R I) (h2.run pins s σ H R I)⟩
theorem PostD.goI {r : R RV} {Q : It → Hp → Prop} {g : D → SE → R (List D)} (h : PostI M W σ ρ F H ((r.bind fz).bind g) Q) {Q' : VK}
    (k : ∀ d ρ1 F1 H1 v, (∃ ρ', r.bind fz = .ok d ρ') → Stp F H σ ρ F1 H1 σ ρ1 → Sim M F1 H1 σ ρ1 → Rep M F1 v d → PostI M W σ ρ F H (g d ρ1) Q → Q' v H1) : Post M W σ ρ F H r Q' := by
  refine PostD.go ?_
  cases e : r.bind fz with
  | bad =>
    rw [e] at h
    exact h
  | ok d ρ1 =>
    rw [e] at h
    exact fun F1 H1 v st sm r => k d ρ1 F1 H1 v ⟨_, e⟩ st sm r h
  | ex x ρ1 =>
    rw [e] at h
    exact h
theorem di_seq {tg : Expr} (he : DE X M W e m) (hK : M.K = X.K := by rfl) : DI X M W tg e (iSeq m) := by
  obtain ⟨t, p, q⟩ := he
  refine ⟨_, PI.or (pi_list p) (PI.or (pi_tup p) (pi_str p)), fun σ H F ρ Q sm h => ?_⟩
  have kind : ∀ d ρ', dFz m ρ = .ok d ρ' → (∃ ds, d = .lst ds) ∨ (∃ n ds, d = .tl n ds) ∨ (∃ ns, d = .scr ns) ∨ (∃ ds, d = .tup ds) ∨ (∃ x, d = .str x) ∨ ∀ ρ2, iSeqs d ρ2 = .bad := fun d ρ' _ => by
    cases d with
    | lst ds => exact .inl ⟨ds, rfl⟩
    | tl n ds => exact .inr (.inl ⟨n, ds, rfl⟩)
    | scr ds => exact .inr (.inr (.inl ⟨ds, rfl⟩))
    | tup ds => exact .inr (.inr (.inr (.inl ⟨ds, rfl⟩)))
    | str ds => exact .inr (.inr (.inr (.inr (.inl ⟨ds, rfl⟩))))
    | _ => exact .inr (.inr (.inr (.inr (.inr fun _ => rfl))))
  have h : PostI M W σ ρ F H (((m ρ).bind fz).bind iSeqs) Q := h
  cases e0 : (m ρ).bind fz with
  | bad =>
    rw [e0] at h
    exact h.elim
  | ex x ρ1 =>
    refine .inl (q σ H F ρ _ sm (PostD.goI h fun d ρ1 F1 H1 v ⟨ρ2, e1⟩ st1 sm1 r1 h1 => ?_))
    rw [e0] at e1
    cases e1
  | ok d ρ0 =>
    rcases kind d ρ0 e0 with ⟨ds, rfl⟩ | ⟨n, ds, rfl⟩ | ⟨ns, rfl⟩ | ⟨ds, rfl⟩ | ⟨x, rfl⟩ | hb
    · refine .inl (q σ H F ρ _ sm (PostD.goI h fun d ρ1 F1 H1 v ⟨ρ2, e1⟩ st1 sm1 r1 h1 => ?_))
      rw [e0] at e1
      cases e1
      cases r1 with
      | lst h2 h3 => exact ⟨_, rfl, ⟨_, .inl (.inl (sm1.sub.go _ _ h2))⟩, hK ▸ h1 F1 H1 _ st1 sm1 (it_list h2 h3)⟩
    · refine .inl (q σ H F ρ _ sm (PostD.goI h fun d ρ1 F1 H1 v ⟨ρ2, e1⟩ st1 sm1 r1 h1 => ?_))
      rw [e0] at e1
      cases e1
      cases r1 with
      | tl h2 h3 => exact ⟨_, rfl, ⟨_, .inl (.inl (sm1.sub.bk _ _ _ h2))⟩, hK ▸ h1 F1 H1 _ st1 sm1 (it_tl h2 h3)⟩
    · refine .inl (q σ H F ρ _ sm (PostD.goI h fun d ρ1 F1 H1 v ⟨ρ2, e1⟩ st1 sm1 r1 h1 => ?_))
      rw [e0] at e1
      cases e1
      cases r1 with
      | scr h2 => exact ⟨_, rfl, ⟨_, hK ▸ sm1.sub.sqL h2⟩, hK ▸ h1 F1 H1 _ st1 sm1 (it_scr h2)⟩
    · refine .inr (.inl (q σ H F ρ _ sm (PostD.goI h fun d ρ1 F1 H1 v ⟨ρ2, e1⟩ st1 sm1 r1 h1 => ?_)))
      rw [e0] at e1
      cases e1
      cases r1 with
      | tup h2 h3 => exact ⟨_, rfl, ⟨_, hK ▸ sm1.sub.sqT h2⟩, hK ▸ h1 F1 H1 _ st1 sm1 (it_tup h2 h3)⟩
    · refine .inr (.inr (q σ H F ρ _ sm (PostD.goI h fun d ρ1 F1 H1 v ⟨ρ2, e1⟩ st1 sm1 r1 h1 => ?_)))
      rw [e0] at e1
      cases e1
      cases r1
      exact ⟨_, rfl, h1 F1 H1 _ st1 sm1 (it_str x)⟩
    · rw [e0] at h
      have h : PostI M W σ ρ F H (iSeqs d ρ0) Q := h
      rw [hb] at h
      exact h.elim
end
end DL

/- part -/
set_option Elab.async false
set_option linter.all false
set_option maxRecDepth 100000
set_option maxHeartbeats 4000000
namespace DL
open PySem PySem.Spec PyProof.Rows L2
def argsIn (svs : SE) : Prop := ∀ (i : Nat) sv, svs[i]? = some sv → (∃ d, sv = .im d) ∨ ∃ ds, sv = .ow true ds
def spD (M : Mx) (n : Nat) (m : SE → R RV) : Sp := fun vs H Q E => ∃ F svs, vs.length = n ∧ argsIn svs ∧ Sim M F H (vs.map some) svs ∧ Post M (fun cls d _ H' => E cls d H') (vs.map some) svs F H (m svs) Q
def argSV (ρ : SE) : AV → SV
  | .d d => .im d
  | .io i => match ρ[i]? with
    | some (.ow _ ds) => .ow true ds
    | _ => .no
def iosOf : Nat → List AV → List (Nat × Nat)
  | _, [] => []
  | j, .d _ :: r => iosOf (j + 1) r
  | j, .io i :: r => (j, i) :: iosOf (j + 1) r
def notBo : RV → Bool
  | .bo _ => false
  | .bt _ _ => false
  | _ => true
def backIo (ρ : SE) (j i : Nat) (svs : SE) : Option SE := match svs[j]?, ρ[i]? with
  | some (.ow true ds), some (.ow io _) => some (ρ.set i (.ow io ds))
  | _, _ => none
def callR (m : SE → R RV) (as : List AV) (ρ : SE) : R RV := match iosOf 0 as with
  | [] => match m (as.map (argSV ρ)) with
    | .bad => .bad
    | .ok r _ => if notBo r = true then .ok r ρ else .bad
    | .ex e _ => .ex e ρ
  | [(j, i)] => match m (as.map (argSV ρ)) with
    | .bad => .bad
    | .ok r svs => if notBo r = true then (match backIo ρ j i svs with
      | some ρ2 => .ok r ρ2
      | none => .bad) else .bad
    | .ex e svs => (match backIo ρ j i svs with
      | some ρ2 => .ex e ρ2
      | none => .bad)
  | _ => .bad
def dCall (n : Nat) (ds : List D) (m : SE → R RV) (ms : DM (List AV)) : DM RV := fun ρ => (ms ρ).bind fun as ρ1 => if (as ++ ds.map AV.d).length = n then callR m (as ++ ds.map AV.d) ρ1 else .bad
section
variable {M : Mx} {W : WX} {X : Cx} {F H F' H' F1 H1 F2 H2 H0 : Hp} {σ : L2.St} {ρ ρ1 : SE} {vs : List V} {as : List AV}
theorem iosOf_mem : ∀ {as : List AV} {n i k : Nat}, as[i]? = some (.io k) → (n + i, k) ∈ iosOf n as
  | [], _, _, _, h => by simp at h
  | .d d :: r, n, 0, k, h => by simp at h
  | .io q :: r, n, 0, k, h => by
    simp at h
    subst h
    exact List.mem_cons_self
  | .d d :: r, n, i + 1, k, h => by
    have h2 := iosOf_mem (n := n + 1) (show r[i]? = some (.io k) by simpa using h)
    rw [show n + 1 + i = n + (i + 1) by omega] at h2
    exact h2
  | .io q :: r, n, i + 1, k, h => by
    have h2 := iosOf_mem (n := n + 1) (show r[i]? = some (.io k) by simpa using h)
    rw [show n + 1 + i = n + (i + 1) by omega] at h2
    exact List.mem_cons_of_mem _ h2
theorem iosOf_at : ∀ {as : List AV} {n j k : Nat}, (j, k) ∈ iosOf n as → ∃ i, j = n + i ∧ as[i]? = some (.io k)
  | [], _, _, _, h => by cases h
  | .d d :: r, n, j, k, h => by
    obtain ⟨i, e, h2⟩ := iosOf_at (as := r) (n := n + 1) h
    exact ⟨i + 1, by omega, by simpa using h2⟩
  | .io q :: r, n, j, k, h => by
    rcases List.mem_cons.mp h with h | h
    · cases h
      exact ⟨0, by omega, rfl⟩
    · obtain ⟨i, e, h2⟩ := iosOf_at (as := r) (n := n + 1) h
      exact ⟨i + 1, by omega, by simpa using h2⟩
theorem AvsOk.len : ∀ {vs : List V} {as : List AV}, AvsOk M F σ ρ vs as → vs.length = as.length
  | _, _, .nil => rfl
  | _, _, .cons _ h => congrArg (· + 1) (AvsOk.len h)
theorem AvsOk.at : ∀ {vs : List V} {as : List AV} {i : Nat} {a : AV}, AvsOk M F σ ρ vs as → as[i]? = some a → ∃ v, vs[i]? = some v ∧ AvOk M F σ ρ v a
  | _, _, _, _, .nil, h => by simp at h
  | _, _, 0, _, .cons h _, e => ⟨_, rfl, by
    simp at e
    subst e
    exact h⟩
  | _, _, i + 1, a, .cons _ t, e => by
    obtain ⟨v, h1, h2⟩ := AvsOk.at (i := i) t (by simpa using e)
    exact ⟨v, by simpa using h1, h2⟩
theorem arg_at {i : Nat} {sv : SV} (e : (as.map (argSV ρ))[i]? = some sv) : ∃ a, as[i]? = some a ∧ argSV ρ a = sv := by
  rw [List.getElem?_map] at e
  exact map_some e
theorem arg_ow {a : AV} {io : Bool} {ds : OC} (h : argSV ρ a = .ow io ds) : io = true ∧ ∃ k q, a = .io k ∧ ρ[k]? = some (.ow q ds) := by
  cases a with
  | d d => cases h
  | io k =>
    have h : (match ρ[k]? with
      | some (.ow _ ds) => SV.ow true ds
      | _ => .no) = .ow io ds := h
    split at h
    · rename_i q es e
      cases h
      exact ⟨rfl, k, q, rfl, e⟩
    · cases h
theorem arg_im {a : AV} {d : D} (h : argSV ρ a = .im d) : a = .d d := by
  cases a with
  | d d =>
    cases h
    rfl
  | io k =>
    have h : (match ρ[k]? with
      | some (.ow _ ds) => SV.ow true ds
      | _ => .no) = .im d := h
    split at h <;> cases h
theorem arg_some {i : Nat} {v : V} (h : (vs.map some)[i]? = some (some v)) : vs[i]? = some v := by
  rw [List.getElem?_map] at h
  obtain ⟨x, e, e2⟩ := map_some h
  cases e2
  exact e
theorem some_arg {i : Nat} {v : V} (h : vs[i]? = some v) : (vs.map some)[i]? = some (some v) := by
  rw [List.getElem?_map, h]
  rfl
theorem own_arg (ok : AvsOk M F σ ρ vs as) {b : Addr} (h : Own (vs.map some) (as.map (argSV ρ)) b) : ∃ (j k : Nat), as[j]? = some (.io k) ∧ isOw ρ k ∧ σ[k]? = some (some (V.ref b)) ∧ vs[j]? = some (V.ref b) := by
  obtain ⟨j, ⟨io, ds, e⟩, e2⟩ := h
  obtain ⟨a, h1, h2⟩ := arg_at e
  obtain ⟨_, k, q, rfl, h3⟩ := arg_ow h2
  have e3 := arg_some e2
  obtain ⟨v, h4, h5⟩ := ok.at h1
  rw [e3] at h4
  cases h4
  exact ⟨j, k, h1, h5.1, h5.2, e3⟩
theorem args_in (ok : AvsOk M F σ ρ vs as) : argsIn (as.map (argSV ρ)) := fun i sv e => by
  obtain ⟨a, h1, h2⟩ := arg_at e
  subst h2
  cases a with
  | d d => exact .inl ⟨d, rfl⟩
  | io k =>
    obtain ⟨v, h4, h5⟩ := ok.at h1
    obtain ⟨⟨io, ds, e3⟩, _⟩ := h5
    refine .inr ⟨ds, ?_⟩
    show (match ρ[k]? with
      | some (.ow _ ds) => SV.ow true ds
      | _ => .no) = _
    rw [e3]
theorem args_sim (sm : Sim M F H σ ρ) (ok : AvsOk M F σ ρ vs as) (one : (iosOf 0 as).length ≤ 1) : Sim M F H (vs.map some) (as.map (argSV ρ)) := by
  refine ⟨sm.sub0, sm.tabs, by rw [List.length_map, List.length_map, ok.len], fun i d e => ?_, fun i io ds e => ?_, fun i j b o1 o2 e1 e2 => ?_⟩
  · obtain ⟨a, h1, h2⟩ := arg_at e
    have h2 := arg_im h2
    subst h2
    obtain ⟨v, h3, h4⟩ := ok.at h1
    exact ⟨v, some_arg h3, h4⟩
  · obtain ⟨a, h1, h2⟩ := arg_at e
    obtain ⟨e3, k, q, rfl, h3⟩ := arg_ow h2
    obtain ⟨v, h4, h5⟩ := ok.at h1
    obtain ⟨b, ws, g1, g2, g3, g4⟩ := sm.ow k q ds h3
    have h6 := h5.2
    rw [g1] at h6
    cases h6
    exact ⟨b, ws, some_arg h4, g2, g3, g4⟩
  · obtain ⟨io1, ds1, q1⟩ := o1
    obtain ⟨io2, ds2, q2⟩ := o2
    obtain ⟨a1, h1, h2⟩ := arg_at q1
    obtain ⟨a2, h3, h4⟩ := arg_at q2
    obtain ⟨_, k1, _, rfl, _⟩ := arg_ow h2
    obtain ⟨_, k2, _, rfl, _⟩ := arg_ow h4
    have m1 := iosOf_mem (n := 0) h1
    have m2 := iosOf_mem (n := 0) h3
    match el : iosOf 0 as, one with
    | [], _ =>
      rw [el] at m1
      cases m1
    | [p], _ =>
      rw [el] at m1 m2
      have e3 := List.mem_singleton.mp m1
      have e4 := List.mem_singleton.mp m2
      rw [← e4] at e3
      have := congrArg Prod.fst e3
      simpa using this
    | _ :: _ :: _, z => simp at z
theorem nb_ok {r : RV} {v : V} {svs : SE} (nb : notBo r = true) (ok : RvOk M H1 F2 H2 (vs.map some) svs v r) (fr : ∀ a, Own σ ρ1 a → ∃ o, H1 a = some o ∧ ∀ ps, o ≠ .tbl ps) : RvOk M H1 F2 H2 σ ρ1 v r := by
  cases r with
  | im d => exact ok
  | ow ds =>
    obtain ⟨a, ws, e, h1, h2, h3, h4, h5⟩ := ok
    refine ⟨a, ws, e, h1, h2, h3, fun z => ?_, h5⟩
    obtain ⟨o, ho, hn⟩ := fr a z
    exact h5.no ho hn
  | bo i => cases nb
  | bt i d => cases nb
  | ot ds d =>
    obtain ⟨T, a, ws, x, e, h1, h2, h3, h4, h5, h6, h7⟩ := ok
    refine ⟨T, a, ws, x, e, h1, h2, h3, h4, h5, fun z => ?_, h7⟩
    obtain ⟨o, ho, hn⟩ := fr a z
    exact h7.no ho hn
theorem call_none {svs : SE} (ok : AvsOk M F1 σ ρ vs as) (sm : Sim M F1 H1 σ ρ) (e : iosOf 0 as = []) (st : Stp F1 H1 (vs.map some) (as.map (argSV ρ)) F2 H2 (vs.map some) svs) (sm2 : Sim M F2 H2 (vs.map some) svs) : Stp F1 H1 σ ρ F2 H2 σ ρ ∧ Sim M F2 H2 σ ρ := by
  have no : ∀ b, ¬ Own (vs.map some) (as.map (argSV ρ)) b := fun b z => by
    obtain ⟨j, k, h1, _⟩ := own_arg ok z
    have h2 := iosOf_mem (n := 0) h1
    rw [e] at h2
    cases h2
  refine ⟨⟨st.same, fun b o h _ nt => st.keep b o h (no b) nt, fun b z => .inl z, fun b o z => (st.newF b o z).elim .inl fun z => z.elim (fun z => (no b z).elim) fun z => .inr (.inr z), st.dom, fun _ ds z => ⟨rfl, ds, z⟩, fun _ ds z => ⟨ds, z⟩⟩,
    ⟨sm2.sub0, sm2.tabs, sm.len, fun i d z => ?_, fun i io ds z => ?_, sm.inj⟩⟩
  · obtain ⟨v, e1, r⟩ := sm.im i d z
    exact ⟨v, e1, r.up st.same⟩
  · obtain ⟨a, ws, e1, h1, h2, r⟩ := sm.ow i io ds z
    refine ⟨a, ws, e1, st.keep _ _ h1 (no a) r.nt, ?_, r.up st.same⟩
    cases e2 : F2 a with
    | none => rfl
    | some o =>
      rcases st.newF a o e2 with z | z | z
      · rw [h2] at z
        cases z
      · exact (no a z).elim
      · exact (z.no h1 r.nt).elim
theorem call_one {svs : SE} {j i : Nat} {ρ2 : SE} (ok : AvsOk M F1 σ ρ vs as) (sm : Sim M F1 H1 σ ρ) (e : iosOf 0 as = [(j, i)]) (hb : backIo ρ j i svs = some ρ2) (st : Stp F1 H1 (vs.map some) (as.map (argSV ρ)) F2 H2 (vs.map some) svs) (sm2 : Sim M F2 H2 (vs.map some) svs) :
    Stp F1 H1 σ ρ F2 H2 σ ρ2 ∧ Sim M F2 H2 σ ρ2 ∧ ∀ a, Own σ ρ2 a → Own σ ρ a := by
  have hj : as[j]? = some (.io i) := by
    obtain ⟨l, e1, h1⟩ := iosOf_at (as := as) (n := 0) (j := j) (k := i) (by rw [e]; exact List.mem_cons_self)
    rw [show j = l by omega]
    exact h1
  obtain ⟨v, h4, h5⟩ := ok.at hj
  unfold backIo at hb
  split at hb
  · rename_i es io ds0 hs hi
    cases hb
    obtain ⟨x, vs0, e1, g1, g2, g3⟩ := sm.ow i io ds0 hi
    obtain ⟨y, ws, e2, k1, k2, k3⟩ := sm2.ow j true es hs
    have h6 := h5.2
    rw [e1] at h6
    cases h6
    have h7 := arg_some e2
    rw [h4] at h7
    cases h7
    have only : ∀ b, Own (vs.map some) (as.map (argSV ρ)) b → b = x := fun b z => by
      obtain ⟨l, k, q1, q2, q3, q4⟩ := own_arg ok z
      have q5 := iosOf_mem (n := 0) q1
      rw [e] at q5
      have q6 := List.mem_singleton.mp q5
      cases q6
      rw [e1] at q3
      cases q3
      rfl
    have hown : Own σ ρ x := ⟨i, ⟨io, ds0, hi⟩, e1⟩
    have lt : i < ρ.length := (List.getElem?_eq_some_iff.mp hi).1
    have back : ∀ l, isOw (ρ.set i (.ow io es)) l → isOw ρ l := fun l ⟨q, d, z⟩ => by
      by_cases hl : l = i
      · subst hl
        exact ⟨io, ds0, hi⟩
      · rw [set_ne hl] at z
        exact ⟨q, d, z⟩
    have bown : ∀ a, Own σ (ρ.set i (.ow io es)) a → Own σ ρ a := fun a ⟨l, o, z⟩ => ⟨l, back l o, z⟩
    refine ⟨⟨st.same, fun b o h n nt => st.keep b o h (fun z => n ((only b z).symm ▸ hown)) nt, fun b z => .inl (bown b z), fun b o z => (st.newF b o z).elim .inl fun z => z.elim (fun z => .inr (.inl ((only b z).symm ▸ hown))) fun z => .inr (.inr z), st.dom, fun l ds z => ⟨rfl, ?_⟩, fun l ds z => ?_⟩,
      ⟨sm2.sub0, sm2.tabs, by rw [List.length_set]; exact sm.len, fun l d z => ?_, fun l q ds z => ?_, fun l k b o1 o2 => sm.inj l k b (back l o1) (back k o2)⟩, bown⟩
    · by_cases hl : l = i
      · subst hl
        rw [hi] at z
        cases z
        exact ⟨es, by rw [List.getElem?_set_self lt]⟩
      · exact ⟨ds, by rw [set_ne hl]; exact z⟩
    · by_cases hl : l = i
      · subst hl
        have z := (set_eq z).symm
        cases z
        exact ⟨ds0, hi⟩
      · rw [set_ne hl] at z
        exact ⟨ds, z⟩
    · by_cases hl : l = i
      · subst hl
        cases set_eq z
      · rw [set_ne hl] at z
        obtain ⟨v, e1, r⟩ := sm.im l d z
        exact ⟨v, e1, r.up st.same⟩
    · by_cases hl : l = i
      · subst hl
        have z := (set_eq z).symm
        cases z
        exact ⟨x, ws, e1, k1, k2, k3⟩
      · rw [set_ne hl] at z
        obtain ⟨a, us, q1, q2, q3, q4⟩ := sm.ow l q ds z
        have na : ¬ Own (vs.map some) (as.map (argSV ρ)) a := fun y => by
          have := only a y
          subst this
          exact hl (sm.inj l i a ⟨q, ds, z⟩ ⟨io, ds0, hi⟩ q1 e1)
        refine ⟨a, us, q1, st.keep _ _ q2 na q4.nt, ?_, q4.up st.same⟩
        cases e2 : F2 a with
        | none => rfl
        | some o =>
          rcases st.newF a o e2 with z | z | z
          · rw [q3] at z
            cases z
          · exact (na z).elim
          · exact (z.no q2 q4.nt).elim
  · cases hb
theorem own_has (sm : Sim M F1 H1 σ ρ) {a : Addr} (h : Own σ ρ a) : ∃ o, H1 a = some o ∧ ∀ ps, o ≠ .tbl ps := by
  exact (sm.ownF h).2
theorem call_sp {m : SE → R RV} {n : Nat} {Q : VK} (ok : AvsOk M F1 σ ρ vs as) (sm : Sim M F1 H1 σ ρ) (hn : vs.length = n) (h : Post M W σ ρ F1 H1 (callR m as ρ) Q) : spD M n m vs H1 Q (fun cls d H' => W cls d σ H') := by
  unfold callR at h
  split at h
  · rename_i e0
    refine ⟨F1, _, hn, args_in ok, args_sim sm ok (by rw [e0]; simp), ?_⟩
    cases e : m (as.map (argSV ρ)) with
    | bad =>
      rw [e] at h
      exact h.elim
    | ok r svs =>
      rw [e] at h
      intro F2 H2 v st2 sm2 ok2
      obtain ⟨st3, sm3⟩ := call_none ok sm e0 st2 sm2
      have h : Post M W σ ρ F1 H1 (if notBo r = true then .ok r ρ else .bad) Q := h
      by_cases nb : notBo r = true
      · rw [if_pos nb] at h
        exact h F2 H2 v st3 sm3 (nb_ok nb ok2 fun a z => own_has sm z)
      · rw [if_neg nb] at h
        exact h.elim
    | ex x svs =>
      rw [e] at h
      intro F2 H2 cls d st2 sm2 ok2
      obtain ⟨st3, sm3⟩ := call_none ok sm e0 st2 sm2
      exact h F2 H2 cls d st3 sm3 ok2
  · rename_i j i e0
    refine ⟨F1, _, hn, args_in ok, args_sim sm ok (by rw [e0]; simp), ?_⟩
    cases e : m (as.map (argSV ρ)) with
    | bad =>
      rw [e] at h
      exact h.elim
    | ok r svs =>
      rw [e] at h
      intro F2 H2 v st2 sm2 ok2
      have h : Post M W σ ρ F1 H1 (if notBo r = true then (match backIo ρ j i svs with
        | some ρ2 => .ok r ρ2
        | none => .bad) else .bad) Q := h
      by_cases nb : notBo r = true
      · rw [if_pos nb] at h
        cases eb : backIo ρ j i svs with
        | none =>
          rw [eb] at h
          exact h.elim
        | some ρ2 =>
          rw [eb] at h
          obtain ⟨st3, sm3, bo⟩ := call_one ok sm e0 eb st2 sm2
          exact h F2 H2 v st3 sm3 (nb_ok nb ok2 fun a z => own_has sm (bo a z))
      · rw [if_neg nb] at h
        exact h.elim
    | ex x svs =>
      rw [e] at h
      intro F2 H2 cls d st2 sm2 ok2
      have h : Post M W σ ρ F1 H1 (match backIo ρ j i svs with
        | some ρ2 => .ex x ρ2
        | none => .bad) Q := h
      cases eb : backIo ρ j i svs with
      | none =>
        rw [eb] at h
        exact h.elim
      | some ρ2 =>
        rw [eb] at h
        obtain ⟨st3, sm3, bo⟩ := call_one ok sm e0 eb st2 sm2
        exact h F2 H2 cls d st3 sm3 ok2
  · exact h.elim
theorem AvsOk.app : ∀ {vs ws : List V} {as : List AV} {ds : List D}, AvsOk M F σ ρ vs as → Reps M F ws ds → AvsOk M F σ ρ (vs ++ ws) (as ++ ds.map AV.d)
  | _, _, _, _, .nil, .nil => .nil
  | _, _, _, _, .nil, .cons r t => .cons r (AvsOk.app (vs := []) (as := []) .nil t)
  | _, _, _, _, .cons h t, r => .cons h (AvsOk.app t r)
variable {k n : Nat} {f : Addr} {fd : FuncData} {ps : List Str} {m : SE → R RV} {x : Str} {p pos : Pos} {a : Expr} {es : List Expr} {ms : DM (List AV)} {dvs : List V} {dus : List Value} {dds : List D}
theorem q_call {t : TA} (qa : ∀ σ H F ρ Q, Sim M F H σ ρ → PostA M W σ ρ F H (ms ρ) Q → t σ H Q) (hr : ∀ F, Reps M F dvs dds) : ∀ σ H F ρ Q, Sim M F H σ ρ → Post M W σ ρ F H (dCall n dds m ms ρ) Q → tCallSD (spD M n m) dvs (fun σ cls d H' => W cls d σ H') t σ H Q := fun σ H F ρ Q sm h => by
  refine qa σ H F ρ _ sm (PostA.goE h fun as ρ1 F1 H1 vs e st1 sm1 ok1 h1 => ?_)
  by_cases hn : (as ++ dds.map AV.d).length = n
  · rw [if_pos hn] at h1
    have ok2 := ok1.app (hr F1)
    exact call_sp ok2 sm1 (by rw [ok2.len]; exact hn) (Post.from st1 h1)
  · rw [if_neg hn] at h1
    exact h1.elim
theorem de_callD (G : FnOk X.prog X.w X.K X.mg X.base (L2.CX X.prog X.w) k f fd ps (spD M n m)) (hr : Room k X.A) (hm : X.mg x = some (.ref f)) (hk : PySem.W.keepIn X.K (.ref f) = true) (hb : Binds X.K fd ps dus) (hd : Vals dvs dus) (hds : ∀ F, Reps M F dvs dds) (tk : Takes X W) (ha : DA X M W (a :: es) ms) (hg : Gl X x := by rfl)
    (hdb : (x == ("__debug__" : Str)) = false := by decide) (he : starEach (a :: es) X.env = (false, eval a X.env) :: starEach es X.env := by rfl) (hpl : (backTo pos (starEach es X.env)).any (·.1) = false := by rfl) :
    DE X M W (.Call (.Name x p) (a :: es) [] pos) (dCall n dds m ms) := by
  obtain ⟨t, pa, qa⟩ := ha
  exact ⟨_, pe_callSD G hr hg hm hk hb hd (E := fun σ cls d H' => W cls d σ H') (fun σ => passAt tk σ) pa hdb he hpl, q_call qa hds⟩
theorem de_call (G : FnOk X.prog X.w X.K X.mg X.base (L2.CX X.prog X.w) k f fd ps (spD M n m)) (hr : Room k X.A) (hm : X.mg x = some (.ref f)) (hk : PySem.W.keepIn X.K (.ref f) = true) (hb : Binds X.K fd ps []) (tk : Takes X W) (ha : DA X M W (a :: es) ms) (hg : Gl X x := by rfl)
    (hdb : (x == ("__debug__" : Str)) = false := by decide) (he : starEach (a :: es) X.env = (false, eval a X.env) :: starEach es X.env := by rfl) (hpl : (backTo pos (starEach es X.env)).any (·.1) = false := by rfl) :
    DE X M W (.Call (.Name x p) (a :: es) [] pos) (dCall n [] m ms) := de_callD G hr hm hk hb .nil (fun _ => .nil) tk ha hg hdb he hpl
def out1 (sv sw : SV) : SV := match sv, sw with
  | .ow true _, .ow true es => .ow true es
  | sv, _ => sv
def outs : SE → SE → SE
  | [], _ => []
  | sv :: r, [] => sv :: r
  | sv :: r, sw :: r' => out1 sv sw :: outs r r'
def mRet (svs : SE) (f : Fl) (ρ : SE) : R RV := match f with
  | .nx => .ok (.im .non) (outs svs ρ)
  | .rt (.im d) => .ok (.im d) (outs svs ρ)
  | .rt (.ow ds) => .ok (.ow ds) (outs svs ρ)
  | .rt (.ot ds d) => .ok (.ot ds d) (outs svs ρ)
  | .rt (.bt i d) => match ρ[i]? with
    | some (.ow false (.ls ds)) => .ok (.ot ds d) (outs svs ρ)
    | _ => .bad
  | .rt (.bo i) => match ρ[i]? with
    | some (.ow false ds) => .ok (.ow ds) (outs svs ρ)
    | _ => .bad
  | _ => .bad
def mFn (nN : Nat) (mb : DM Fl) (svs : SE) : R RV := match mb (svs ++ List.replicate (nN - svs.length) .no) with
  | .bad => .bad
  | .ok f ρ => mRet svs f ρ
  | .ex e ρ => .ex e (outs svs ρ)
theorem outs_io : ∀ {svs ρ : SE} {i : Nat} {ds es : OC}, svs[i]? = some (.ow true ds) → ρ[i]? = some (.ow true es) → (outs svs ρ)[i]? = some (.ow true es)
  | [], _, _, _, _, h, _ => by simp at h
  | sv :: r, [], _, _, _, _, h => by simp at h
  | sv :: r, sw :: r', 0, ds, es, h1, h2 => by
    simp at h1 h2
    subst h1 h2
    rfl
  | sv :: r, sw :: r', i + 1, ds, es, h1, h2 => by
    have ih := outs_io (svs := r) (ρ := r') (i := i) (by simpa using h1) (by simpa using h2)
    show (out1 sv sw :: outs r r')[i + 1]? = _
    simpa using ih
theorem outs_im : ∀ {svs ρ : SE} {i : Nat} {d : D}, svs[i]? = some (.im d) → (outs svs ρ)[i]? = some (.im d)
  | [], _, _, _, h => by simp at h
  | sv :: r, [], i, d, h => h
  | sv :: r, sw :: r', 0, d, h1 => by
    simp at h1
    subst h1
    rfl
  | sv :: r, sw :: r', i + 1, d, h1 => by
    have ih := outs_im (svs := r) (ρ := r') (i := i) (by simpa using h1)
    show (out1 sv sw :: outs r r')[i + 1]? = _
    simpa using ih
theorem outs_len : ∀ svs ρ : SE, (outs svs ρ).length = svs.length
  | [], [] => rfl
  | [], _ :: _ => rfl
  | sv :: r, [] => rfl
  | sv :: r, sw :: r' => congrArg (· + 1) (outs_len r r')
theorem start_lo {N : List Str} {vs : List V} {i : Nat} (h : i < vs.length) : (L2.start N vs)[i]? = (vs.map some)[i]? := by
  unfold L2.start
  rw [List.getElem?_append_left (by simpa using h)]
theorem pad_lo {svs : SE} {n i : Nat} (h : i < svs.length) : (svs ++ List.replicate n SV.no)[i]? = svs[i]? := List.getElem?_append_left h
theorem pad_at {svs : SE} {n i : Nat} {sv : SV} (h : (svs ++ List.replicate n SV.no)[i]? = some sv) (hne : sv ≠ .no) : i < svs.length ∧ svs[i]? = some sv := by
  by_cases hi : i < svs.length
  · rw [pad_lo hi] at h
    exact ⟨hi, h⟩
  · rw [List.getElem?_append_right (by omega), List.getElem?_replicate] at h
    split at h
    · cases h
      exact (hne rfl).elim
    · cases h
section
variable {N : List Str} {svs : SE} {σ' : L2.St} {ρ' : SE}
theorem start_sim (sm : Sim M F H (vs.map some) svs) (hN : vs.length ≤ N.length) : Sim M F H (L2.start N vs) (svs ++ List.replicate (N.length - svs.length) .no) := by
  have hl : vs.length = svs.length := by simpa using sm.len
  have tr : ∀ {i : Nat} {sv : SV}, (svs ++ List.replicate (N.length - svs.length) SV.no)[i]? = some sv → sv ≠ .no → svs[i]? = some sv ∧ (L2.start N vs)[i]? = (vs.map some)[i]? := fun {i sv} h hne => by
    obtain ⟨h1, h2⟩ := pad_at h hne
    exact ⟨h2, start_lo (by omega)⟩
  refine ⟨sm.sub0, sm.tabs, ?_, fun i d e => ?_, fun i io ds e => ?_, fun i j a o1 o2 e1 e2 => ?_⟩
  · unfold L2.start
    simp only [List.length_append, List.length_map, List.length_replicate]
    omega
  · obtain ⟨h1, h2⟩ := tr e (by simp)
    rw [h2]
    exact sm.im i d h1
  · obtain ⟨h1, h2⟩ := tr e (by simp)
    rw [h2]
    exact sm.ow i io ds h1
  · obtain ⟨io1, ds1, q1⟩ := o1
    obtain ⟨io2, ds2, q2⟩ := o2
    obtain ⟨h1, h2⟩ := tr q1 (by simp)
    obtain ⟨h3, h4⟩ := tr q2 (by simp)
    rw [h2] at e1
    rw [h4] at e2
    exact sm.inj i j a ⟨_, _, h1⟩ ⟨_, _, h3⟩ e1 e2
theorem end_sim (ai : argsIn svs) (sm0 : Sim M F H (vs.map some) svs) (st : Stp F H (L2.start N vs) (svs ++ List.replicate (N.length - svs.length) .no) F' H' σ' ρ') (sm : Sim M F' H' σ' ρ') :
    Stp F H (vs.map some) svs F' H' (vs.map some) (outs svs ρ') ∧ Sim M F' H' (vs.map some) (outs svs ρ') ∧ (∀ b, Own (vs.map some) (outs svs ρ') b → ∃ (i : Nat) (ds : OC), ρ'[i]? = some (.ow true ds) ∧ σ'[i]? = some (some (V.ref b))) ∧
      ∀ b, Own (L2.start N vs) (svs ++ List.replicate (N.length - svs.length) .no) b → ∃ (i : Nat) (ds : OC), ρ'[i]? = some (.ow true ds) ∧ σ'[i]? = some (some (V.ref b)) := by
  have hl : vs.length = svs.length := by simpa using sm0.len
  have own0 : ∀ b, Own (L2.start N vs) (svs ++ List.replicate (N.length - svs.length) .no) b → ∃ (i : Nat) (ds : OC), svs[i]? = some (.ow true ds) ∧ (vs.map some)[i]? = some (some (V.ref b)) ∧ i < svs.length := fun b ⟨i, ⟨io, ds, e⟩, e2⟩ => by
    obtain ⟨h1, h2⟩ := pad_at e (by simp)
    rw [start_lo (by omega)] at e2
    rcases ai i _ h2 with ⟨d, z⟩ | ⟨ds', z⟩
    · cases z
    · cases z
      exact ⟨i, ds, h2, e2, h1⟩
  have toOwn : ∀ b, Own (L2.start N vs) (svs ++ List.replicate (N.length - svs.length) .no) b → Own (vs.map some) svs b := fun b z => by
    obtain ⟨i, ds, h1, h2, _⟩ := own0 b z
    exact ⟨i, ⟨true, ds, h1⟩, h2⟩
  have fromOwn : ∀ b, Own (vs.map some) svs b → Own (L2.start N vs) (svs ++ List.replicate (N.length - svs.length) .no) b := fun b ⟨i, ⟨io, ds, e⟩, e2⟩ => by
    have hi : i < svs.length := (List.getElem?_eq_some_iff.mp e).1
    exact ⟨i, ⟨io, ds, by rw [pad_lo hi]; exact e⟩, by rw [start_lo (by omega)]; exact e2⟩
  have io : ∀ {i : Nat} {ds : OC}, svs[i]? = some (.ow true ds) → σ'[i]? = (vs.map some)[i]? ∧ ∃ ds', ρ'[i]? = some (.ow true ds') := fun {i ds} h => by
    have hi : i < svs.length := (List.getElem?_eq_some_iff.mp h).1
    obtain ⟨e1, e2⟩ := st.io i ds (by rw [pad_lo hi]; exact h)
    rw [start_lo (by omega)] at e1
    exact ⟨e1, e2⟩
  have oat : ∀ {i : Nat} {sv : SV}, (outs svs ρ')[i]? = some sv → (∃ d, sv = .im d ∧ svs[i]? = some (.im d)) ∨ ∃ ds ds', sv = .ow true ds' ∧ svs[i]? = some (.ow true ds) ∧ ρ'[i]? = some (.ow true ds') := fun {i sv} h => by
    have hi : i < svs.length := by
      rw [← outs_len svs ρ']
      exact (List.getElem?_eq_some_iff.mp h).1
    rcases ai i _ (List.getElem?_eq_getElem hi) with ⟨d, e⟩ | ⟨ds, e⟩
    · have e2 : svs[i]? = some (.im d) := by rw [List.getElem?_eq_getElem hi, e]
      rw [outs_im e2] at h
      cases h
      exact .inl ⟨d, rfl, e2⟩
    · have e2 : svs[i]? = some (.ow true ds) := by rw [List.getElem?_eq_getElem hi, e]
      obtain ⟨_, ds', e3⟩ := io e2
      rw [outs_io e2 e3] at h
      cases h
      exact .inr ⟨ds, ds', rfl, e2, e3⟩
  have oown : ∀ b, Own (vs.map some) (outs svs ρ') b → ∃ (i : Nat) (ds ds' : OC), svs[i]? = some (.ow true ds) ∧ ρ'[i]? = some (.ow true ds') ∧ (vs.map some)[i]? = some (some (V.ref b)) := fun b ⟨i, ⟨q, ds, e⟩, e2⟩ => by
    rcases oat e with ⟨d, z, _⟩ | ⟨ds1, ds2, z, h1, h2⟩
    · cases z
    · exact ⟨i, ds1, ds2, h1, h2, e2⟩
  have back : ∀ b, Own (vs.map some) (outs svs ρ') b → Own (vs.map some) svs b := fun b z => by
    obtain ⟨i, ds, _, h1, _, h2⟩ := oown b z
    exact ⟨i, ⟨true, ds, h1⟩, h2⟩
  refine ⟨⟨st.same, fun b o h n nt => st.keep b o h (fun z => n (toOwn b z)) nt, fun b z => .inl (back b z), fun b o z => (st.newF b o z).elim .inl fun z => z.elim (fun z => .inr (.inl (toOwn b z))) fun z => .inr (.inr z), st.dom, fun i ds h => ?_, fun i ds h => ?_⟩,
    ⟨sm.sub0, sm.tabs, by rw [outs_len]; exact sm0.len, fun i d h => ?_, fun i q ds h => ?_, fun i j a o1 o2 e1 e2 => ?_⟩, fun b z => ?_, fun b z => ?_⟩
  · obtain ⟨_, ds', e2⟩ := io h
    exact ⟨rfl, ds', outs_io h e2⟩
  · rcases oat h with ⟨d, z, _⟩ | ⟨ds1, ds2, z, h1, h2⟩
    · cases z
    · exact ⟨ds1, h1⟩
  · rcases oat h with ⟨d', z, h1⟩ | ⟨ds1, ds2, z, h1, h2⟩
    · cases z
      obtain ⟨v, e, r⟩ := sm0.im i d h1
      exact ⟨v, e, r.up st.same⟩
    · cases z
  · rcases oat h with ⟨d', z, h1⟩ | ⟨ds1, ds2, z, h1, h2⟩
    · cases z
    · cases z
      obtain ⟨e1, _⟩ := io h1
      obtain ⟨a, ws, g1, g2⟩ := sm.ow i true ds h2
      rw [e1] at g1
      exact ⟨a, ws, g1, g2⟩
  · obtain ⟨q1, d1, z1⟩ := o1
    obtain ⟨q2, d2, z2⟩ := o2
    rcases oat z1 with ⟨d', z, _⟩ | ⟨ds1, ds2, z, h1, h2⟩
    · cases z
    · rcases oat z2 with ⟨d', z, _⟩ | ⟨ds3, ds4, z, h3, h4⟩
      · cases z
      · exact sm0.inj i j a ⟨_, _, h1⟩ ⟨_, _, h3⟩ e1 e2
  · obtain ⟨i, ds, ds', h1, h2, h3⟩ := oown b z
    obtain ⟨e1, _⟩ := io h1
    exact ⟨i, ds', h2, by rw [e1]; exact h3⟩
  · obtain ⟨i, ds, h1, h2, _⟩ := own0 b z
    obtain ⟨e1, ds', e2⟩ := io h1
    exact ⟨i, ds', e2, by rw [e1]; exact h2⟩
end
end
theorem fn_body {M : Mx} {X : Cx} {N ps : List Str} {body : List Stmt} {mb : DM Fl} {vs : List V} {H : Hp} {Q : VK} {E : XK} (hN : ps.length ≤ N.length) (hb : DSs X M (fun cls d _ H' => E cls d H') body mb) (h : spD M ps.length (mFn N.length mb) vs H Q E) :
    ∃ t, PSs X body t ∧ t { nx := fun _ H' => Q .non H', rt := Q } (L2.start N vs) H := by
  obtain ⟨F, svs, h1, ai, sm, hp⟩ := h
  obtain ⟨t, pt, qt⟩ := hb
  refine ⟨t, pt, qt _ H F _ _ (start_sim sm (by omega)) ?_⟩
  unfold mFn at hp
  cases e : mb (svs ++ List.replicate (N.length - svs.length) .no) with
  | bad =>
    rw [e] at hp
    exact hp.elim
  | ex x ρ' =>
    rw [e] at hp
    intro F' H' σ' cls d st' sm' ok'
    obtain ⟨st2, sm2, _⟩ := end_sim ai sm st' sm'
    exact hp F' H' cls d st2 sm2 ok'
  | ok fl ρ' =>
    rw [e] at hp
    have hp : Post M (fun cls d _ H' => E cls d H') (vs.map some) svs F H (mRet svs fl ρ') Q := hp
    cases fl with
    | nx =>
      intro F' H' σ' st' sm'
      obtain ⟨st2, sm2, _⟩ := end_sim ai sm st' sm'
      exact hp F' H' _ st2 sm2 Rep.non
    | bk => exact hp.elim
    | ct => exact hp.elim
    | rt r =>
      intro F' H' σ' v st' sm' ok'
      obtain ⟨st2, sm2, o1, o2⟩ := end_sim ai sm st' sm'
      cases r with
      | im d => exact hp F' H' v st2 sm2 ok'
      | ow ds =>
        obtain ⟨a, ws, e1, g1, g2, g3, g4, g5⟩ := ok'
        refine hp F' H' v st2 sm2 ⟨a, ws, e1, g1, g2, g3, fun z => g4 ?_, g5⟩
        obtain ⟨i, ds', q1, q2⟩ := o1 a z
        exact ⟨i, ⟨_, _, q1⟩, q2⟩
      | ot ds d =>
        obtain ⟨T', a, ws, x, e1, g1, g2, g3, g4, g5, g6, g7⟩ := ok'
        refine hp F' H' v st2 sm2 ⟨T', a, ws, x, e1, g1, g2, g3, g4, g5, fun z => g6 ?_, g7⟩
        obtain ⟨i, ds', q1, q2⟩ := o1 a z
        exact ⟨i, ⟨_, _, q1⟩, q2⟩
      | bt i d =>
        have hp : Post M (fun cls d _ H' => E cls d H') (vs.map some) svs F H (match ρ'[i]? with
          | some (.ow false (.ls ds)) => .ok (.ot ds d) (outs svs ρ')
          | _ => .bad) Q := hp
        obtain ⟨T', a, x, hT, hT2, _, hv, rx⟩ := ok'
        split at hp
        · rename_i ds hi
          obtain ⟨a2, ws, e1, g1, g2, g3⟩ := sm'.owl i false ds hi
          rw [hv] at e1
          cases e1
          have no : ∀ (l : Nat) (es : OC), ρ'[l]? = some (.ow true es) → σ'[l]? = some (some (V.ref a)) → False := fun l es q1 q2 => by
            have := sm'.inj l i a ⟨_, _, q1⟩ ⟨_, _, hi⟩ q2 hv
            subst this
            rw [hi] at q1
            cases q1
          refine hp F' H' _ st2 sm2 ⟨T', a, ws, x, hT, hT2, g1, g2, g3, rx, fun z => ?_, ?_⟩
          · obtain ⟨l, es, q1, q2⟩ := o1 a z
            exact no l es q1 q2
          · rcases st'.new a ⟨i, ⟨_, _, hi⟩, hv⟩ with z | z
            · obtain ⟨l, es, q1, q2⟩ := o2 a z
              exact (no l es q1 q2).elim
            · exact z
        · exact hp.elim
      | bo i =>
        have hp : Post M (fun cls d _ H' => E cls d H') (vs.map some) svs F H (match ρ'[i]? with
          | some (.ow false ds) => .ok (.ow ds) (outs svs ρ')
          | _ => .bad) Q := hp
        obtain ⟨_, hv⟩ := ok'
        split at hp
        · rename_i ds hi
          obtain ⟨a, ws, e1, g1, g2, g3⟩ := sm'.ow i false ds hi
          rw [hv] at e1
          cases e1
          have no : ∀ (l : Nat) (es : OC), ρ'[l]? = some (.ow true es) → σ'[l]? = some (some (V.ref a)) → False := fun l es q1 q2 => by
            have := sm'.inj l i a ⟨_, _, q1⟩ ⟨_, _, hi⟩ q2 hv
            subst this
            rw [hi] at q1
            cases q1
          refine hp F' H' _ st2 sm2 ⟨a, ws, rfl, g1, g2, g3, fun z => ?_, ?_⟩
          · obtain ⟨l, es, q1, q2⟩ := o1 a z
            exact no l es q1 q2
          · rcases st'.new a ⟨i, ⟨_, _, hi⟩, hv⟩ with z | z
            · obtain ⟨l, es, q1, q2⟩ := o2 a z
              exact (no l es q1 q2).elim
            · exact z
        · exact hp.elim
theorem fn_D {M : Mx} {P : Program} {w : World} {base : Heap} {x qual : Str} {st : Stmt} {f : Addr} {fd : FuncData} {N ps : List Str} {k : Nat} {mb : DM Fl} (Fu : Fun M.K x qual st f fd) (S : FnScope N ps (defScope st))
    (hb : ∀ (cdv : Value) (A : Around) (outer : List Env) (s : Shared) (H : Hp) (E : XK), Room k (A.deeper (envOfC qual (defScope st) s.heap.objs.size f cdv)) →
      DSs (cxOf (L2.CX P w) P w M.K M.mg base N qual (defScope st) f cdv A outer s H E) M (fun cls d _ H' => E cls d H') (defBody st) mb) :
    FnOk P w M.K M.mg base (L2.CX P w) (k + 1) f fd ps (spD M ps.length (mFn N.length mb)) := by
  have hN : ps.length ≤ N.length := by
    have := congrArg List.length S.pre
    rw [List.length_take] at this
    omega
  exact Fu.okX S (fun vs H Q E h => by
    obtain ⟨F, svs, h1, _⟩ := h
    exact h1) fun cdv A outer s H vs Q E hr h => fn_body hN (hb cdv A outer s H E hr) h
end DL

/- part -/
set_option Elab.async false
set_option linter.all false
set_option maxRecDepth 100000
set_option maxHeartbeats 4000000
namespace DL
open PySem PySem.Spec PyProof.Rows L2
section
variable {M : Mx} {W : WX} {X : Cx} {F H F' H' F1 H1 H0 : Hp} {σ : L2.St} {ρ ρ1 : SE}
variable {a b c e : Expr} {ma mb mc m : DM RV} {mt mu : DM Bool} {es : List Expr} {pos : Pos}
inductive Vws (M : Mx) (F H : Hp) : List V → List D → Prop
  | nil : Vws M F H [] []
  | cons {v : V} {vs : List V} {d : D} {ds : List D} : Vw M F H v d → Vws M F H vs ds → Vws M F H (v :: vs) (d :: ds)
def PostV (M : Mx) (W : WX) (σ : L2.St) (ρ : SE) (F H : Hp) (r : R (List D)) (Q : List V → Hp → Prop) : Prop := match r with
  | .bad => False
  | .ok ds ρ' => ∀ F' H' vs, Stp F H σ ρ F' H' σ ρ' → Sim M F' H' σ ρ' → Vws M F' H' vs ds → Q vs H'
  | .ex e ρ' => ∀ F' H' cls d, Stp F H σ ρ F' H' σ ρ' → Sim M F' H' σ ρ' → ExcOk M F' H' cls d e → W cls d σ H'
def DV (X : Cx) (M : Mx) (W : WX) (es : List Expr) (m : DM (List D)) : Prop := ∃ t, PA X es t ∧ ∀ σ H F ρ Q, Sim M F H σ ρ → PostV M W σ ρ F H (m ρ) Q → t σ H Q
def vNil : DM (List D) := fun ρ => .ok [] ρ
def vCons (ma : DM RV) (ms : DM (List D)) : DM (List D) := fun ρ => (ma ρ).bind fun x ρ1 => (ms ρ1).bind fun ds ρ2 => match look ρ2 x with
  | some d => .ok (d :: ds) ρ2
  | none => .bad
variable {mv : DM (List D)}
theorem dv_nil : DV X M W [] vNil := ⟨_, pa_nil, fun σ H F ρ Q sm h => h F H [] (Stp.refl _ _ _ _) sm .nil⟩
theorem PostV.from {r : R (List D)} {Q : List V → Hp → Prop} (st : Stp F H σ ρ F1 H1 σ ρ1) (h : PostV M W σ ρ F H r Q) : PostV M W σ ρ1 F1 H1 r Q := by
  cases r with
  | bad => exact h
  | ok a ρ2 => exact fun F2 H2 v st2 sm ok => h F2 H2 v (st.trans st2) sm ok
  | ex e ρ2 => exact fun F2 H2 cls d st2 sm ok => h F2 H2 cls d (st.trans st2) sm ok
theorem dv_cons (ha : DE X M W a ma) (hs : DV X M W es mv) (hst : starEach (a :: es) X.env = (false, eval a X.env) :: starEach es X.env := by rfl) : DV X M W (a :: es) (vCons ma mv) := by
  obtain ⟨te, pa, qa⟩ := ha
  obtain ⟨t, ps, qs⟩ := hs
  refine ⟨_, pa_cons pa ps hst, fun σ H F ρ Q sm h => ?_⟩
  refine qa σ H F ρ _ sm ?_
  unfold vCons at h
  cases e : ma ρ with
  | bad =>
    rw [e] at h
    exact h
  | ex x ρ1 =>
    rw [e] at h
    exact h
  | ok x ρ1 =>
    rw [e] at h
    intro F1 H1 v st1 sm1 ok1
    refine qs σ H1 F1 ρ1 _ sm1 ?_
    have h : PostV M W σ ρ F H ((mv ρ1).bind fun ds ρ2 => match look ρ2 x with
      | some d => .ok (d :: ds) ρ2
      | none => .bad) Q := h
    cases e2 : mv ρ1 with
    | bad =>
      rw [e2] at h
      exact h
    | ex y ρ2 =>
      rw [e2] at h
      exact fun F2 H2 cls d st2 sm ok => h F2 H2 cls d (st1.trans st2) sm ok
    | ok ds ρ2 =>
      rw [e2] at h
      have h : PostV M W σ ρ F H (match look ρ2 x with
        | some d => .ok (d :: ds) ρ2
        | none => .bad) Q := h
      cases e3 : look ρ2 x with
      | none =>
        rw [e3] at h
        exact h.elim
      | some d =>
        rw [e3] at h
        exact fun F2 H2 vs st2 sm2 ok2 => h F2 H2 _ (st1.trans st2) sm2 (.cons (ok1.view st2 sm2 e3) ok2)
def CbOk (M : Mx) (r : List V → Hp → VK → Prop) (g : List D → Option RV) : Prop := ∀ (F H : Hp) (vs : List V) (ds : List D) (rv : RV) (Q : VK), SubF F H → Vws M F H vs ds → g ds = some rv → (∀ F' H' v, Alc F H F' H' → RvNew M H F' H' v rv → Q v H') → r vs H Q
def dCb (g : List D → Option RV) (mv : DM (List D)) : DM RV := fun ρ => (mv ρ).bind fun ds ρ1 => ofO (g ds) ρ1
theorem PostV.goE {r : R (List D)} {Q : VK} {g : List D → SE → R RV} (h : Post M W σ ρ F H (r.bind g) Q) {Q' : List V → Hp → Prop}
    (k : ∀ a ρ1 F1 H1 v, r = .ok a ρ1 → Stp F H σ ρ F1 H1 σ ρ1 → Sim M F1 H1 σ ρ1 → Vws M F1 H1 v a → Post M W σ ρ F H (g a ρ1) Q → Q' v H1) : PostV M W σ ρ F H r Q' := by
  cases r with
  | bad => exact h
  | ok a ρ1 => exact fun F1 H1 v st sm ok => k a ρ1 F1 H1 v rfl st sm ok h
  | ex e ρ1 => exact h
theorem q_cb {t : TA} {r : List V → Hp → VK → Prop} {g : List D → Option RV} (qa : ∀ σ H F ρ Q, Sim M F H σ ρ → PostV M W σ ρ F H (mv ρ) Q → t σ H Q) (o : CbOk M r g) : ∀ σ H F ρ Q, Sim M F H σ ρ → Post M W σ ρ F H (dCb g mv ρ) Q → tCB r t σ H Q := fun σ H F ρ Q sm h => by
  refine qa σ H F ρ _ sm (PostV.goE h fun ds ρ1 F1 H1 vs _ st1 sm1 ok1 h1 => ?_)
  obtain ⟨rv, e, k⟩ := Post.fin' h1 st1 sm1
  exact o F1 H1 vs ds rv Q sm1.sub ok1 e k
variable {r : List V → Hp → VK → Prop} {g : List D → Option RV} {x : Str} {p : Pos}
theorem de_cb {id : String} (hc : CallR X (.builtin id) r) (o : CbOk M r g) (hv : bootBuiltins x = some (.builtin id)) (ha : DV X M W (a :: es) mv) (hm : X.mg x = none) (hg : Gl X x := by rfl) (hn : x ≠ "__name__" := by decide) (hdb : (x == ("__debug__" : Str)) = false := by decide)
    (he : starEach (a :: es) X.env = (false, eval a X.env) :: starEach es X.env := by rfl) (hpl : (backTo pos (starEach es X.env)).any (·.1) = false := by rfl) : DE X M W (.Call (.Name x p) (a :: es) [] pos) (dCb g mv) := by
  obtain ⟨t, pa, qa⟩ := ha
  exact ⟨_, pe_callB hc hg hm hv pa hn hdb he hpl, q_cb qa o⟩
theorem de_cty {T : String} (hc : CallR X (.type T) r) (o : CbOk M r g) (hv : bootBuiltins x = some (.type T)) (ha : DV X M W (a :: es) mv) (hm : X.mg x = none) (hg : Gl X x := by rfl) (hn : x ≠ "__name__" := by decide) (hdb : (x == ("__debug__" : Str)) = false := by decide)
    (he : starEach (a :: es) X.env = (false, eval a X.env) :: starEach es X.env := by rfl) (hpl : (backTo pos (starEach es X.env)).any (·.1) = false := by rfl) : DE X M W (.Call (.Name x p) (a :: es) [] pos) (dCb g mv) := by
  obtain ⟨t, pa, qa⟩ := ha
  exact ⟨_, pe_callTy hc hg hm hv pa hn hdb he hpl, q_cb qa o⟩
theorem vws1 {vs : List V} {d : D} (h : Vws M F H vs [d]) : ∃ v, vs = [v] ∧ Vw M F H v d := by
  cases h with
  | cons h1 h2 =>
    cases h2
    exact ⟨_, rfl, h1⟩
def gLen : List D → Option RV
  | [.lst ds] => some (.im (.int ds.length))
  | [.tup ds] => some (.im (.int ds.length))
  | [.scr ns] => some (.im (.int ns.length))
  | [.str x] => if x.length ≤ 1000000 then some (.im (.int x.length)) else none
  | _ => none
theorem cb_len : CbOk M (fun xs H Q => ∃ x n, xs = [x] ∧ LenV M.K x H n ∧ Q (.int n) H) gLen := by
  intro F H vs ds rv Q sub hv hg k
  unfold gLen at hg
  split at hg
  · cases hg
    obtain ⟨v, rfl, a, ws, e, h1, r⟩ := vws1 hv
    subst e
    refine ⟨_, _, rfl, .inl ⟨ws, .inl (.inl h1), rfl⟩, ?_⟩
    rw [r.length]
    exact k _ _ _ (Alc.refl sub) RvNew.int
  · cases hg
    obtain ⟨v, rfl, h⟩ := vws1 hv
    obtain ⟨a, ws, e, h1, r⟩ := vw_tup h
    subst e
    refine ⟨_, _, rfl, .inr ⟨ws, sub.sqT h1, rfl⟩, ?_⟩
    rw [r.length]
    exact k _ _ _ (Alc.refl sub) RvNew.int
  · rename_i ns
    cases hg
    obtain ⟨v, rfl, h⟩ := vws1 hv
    cases h with
    | scr h1 =>
      refine ⟨_, ns.length, rfl, .inl ⟨_, sub.sqL h1, (List.length_map _).symm⟩, k _ _ _ (Alc.refl sub) RvNew.int⟩
  · obtain ⟨hz, e⟩ := some_ite hg
    cases e
    obtain ⟨v, rfl, h⟩ := vws1 hv
    rw [vw_str h]
    exact ⟨_, _, rfl, ⟨szle hz, rfl⟩, k _ _ _ (Alc.refl sub) RvNew.int⟩
  · cases hg
def gAbs : List D → Option RV
  | [.int i] => some (.im (.int (if i < 0 then -i else i)))
  | _ => none
theorem cb_abs : CbOk M (fun xs H Q => ∃ i, xs = [.int i] ∧ Q (.int (if i < 0 then -i else i)) H) gAbs := by
  intro F H vs ds rv Q sub hv hg k
  unfold gAbs at hg
  split at hg
  · cases hg
    obtain ⟨v, rfl, h⟩ := vws1 hv
    rw [vw_int h]
    exact ⟨_, rfl, k _ _ _ (Alc.refl sub) RvNew.int⟩
  · cases hg
def gList : List D → Option RV
  | [.lst ds] => some (.ow (.ls ds))
  | [.tup ds] => some (.ow (.ls ds))
  | [.scr ns] => some (.ow (.ls (ns.map D.int)))
  | _ => none
theorem cb_list : CbOk M (fun xs H Q => ∃ p ys, xs = [.ref p] ∧ (SqL M.K H p ys ∨ SqT M.K H p ys) ∧ ∀ l, H l = none → Q (.ref l) (upd H l (.lst ys))) gList := by
  intro F H vs ds rv Q sub hv hg k
  unfold gList at hg
  split at hg
  · cases hg
    obtain ⟨v, rfl, a, ws, e, h1, r⟩ := vws1 hv
    subst e
    exact ⟨_, _, rfl, .inl (.inl (.inl h1)), fun l hl => new_lst sub r k hl⟩
  · cases hg
    obtain ⟨v, rfl, h⟩ := vws1 hv
    obtain ⟨a, ws, e, h1, r⟩ := vw_tup h
    subst e
    exact ⟨_, _, rfl, .inr (sub.sqT h1), fun l hl => new_lst sub r k hl⟩
  · rename_i ns
    cases hg
    obtain ⟨v, rfl, h⟩ := vws1 hv
    cases h with
    | scr h1 => exact ⟨_, _, rfl, .inl (sub.sqL h1), fun l hl => new_lst sub (Reps.ofInts ns) k hl⟩
  · cases hg
def gTuple : List D → Option RV
  | [.lst ds] => some (.im (.tup ds))
  | [.tup ds] => some (.im (.tup ds))
  | _ => none
theorem cb_tuple : CbOk M (fun xs H Q => ∃ p ys, xs = [.ref p] ∧ ((SqL M.K H p ys ∧ ∀ l, H l = none → Q (.ref l) (upd H l (.tup ys))) ∨ (SqT M.K H p ys ∧ Q (.ref p) H))) gTuple := by
  intro F H vs ds rv Q sub hv hg k
  unfold gTuple at hg
  split at hg
  · cases hg
    obtain ⟨v, rfl, a, ws, e, h1, r⟩ := vws1 hv
    subst e
    exact ⟨_, _, rfl, .inl ⟨.inl (.inl h1), fun l hl => new_tup sub r k hl⟩⟩
  · cases hg
    obtain ⟨v, rfl, h⟩ := vws1 hv
    have h' := h
    obtain ⟨a, ws, e, h1, r⟩ := vw_tup h
    subst e
    exact ⟨_, _, rfl, .inr ⟨sub.sqT h1, k _ _ _ (Alc.refl sub) h'⟩⟩
  · cases hg
def asBls : List D → Option (List Bool)
  | [] => some []
  | .bl b :: r => (asBls r).map (b :: ·)
  | _ :: _ => none
theorem asBls_ok : ∀ {ds : List D} {bs : List Bool} {vs : List V}, asBls ds = some bs → Reps M F vs ds → vs = bs.map V.bl
  | [], _, _, e, .nil => by
    cases e
    rfl
  | d :: ds, bs, _, e, .cons r t => by
    cases d <;> first
      | (have e : (asBls ds).map _ = some bs := e
         obtain ⟨bs', e1, e2⟩ := map_some e
         subst e2
         cases r
         rw [asBls_ok e1 t]
         rfl)
      | cases e
def gAll : List D → Option RV
  | [.lst ds] => (asBls ds).map fun bs => .im (.bl (bs.all id))
  | _ => none
theorem cb_all : CbOk M (rAll M.K) gAll := by
  intro F H vs ds rv Q sub hv hg k
  unfold gAll at hg
  split at hg
  · obtain ⟨bs, e1, e2⟩ := map_some hg
    subst e2
    obtain ⟨v, rfl, a, ws, e, h1, r⟩ := vws1 hv
    subst e
    have ew := asBls_ok e1 r
    subst ew
    exact ⟨a, bs, rfl, .inl (.inl h1), k _ _ _ (Alc.refl sub) RvNew.bl⟩
  · cases hg
def cutL {α : Type} (xs : List α) (lo hi : Option Int) : List α := (xs.drop (HT.sIx xs.length 0 lo)).take (HT.sIx xs.length xs.length hi - HT.sIx xs.length 0 lo)
theorem cut_rep {vs : List V} {ds : List D} (r : Reps M F vs ds) (lo hi : Option Int) : Reps M F (cutV vs lo hi) (cutL ds lo hi) := by
  unfold cutV cutL
  rw [r.length]
  exact (r.drop _).take _
def PostP (M : Mx) (W : WX) (σ : L2.St) (ρ : SE) (F H : Hp) (r : R (Option Int)) (Q : Option Int → Hp → Prop) : Prop := match r with
  | .bad => False
  | .ok i ρ' => ∀ F' H', Stp F H σ ρ F' H' σ ρ' → Sim M F' H' σ ρ' → Q i H'
  | .ex e ρ' => ∀ F' H' cls d, Stp F H σ ρ F' H' σ ρ' → Sim M F' H' σ ρ' → ExcOk M F' H' cls d e → W cls d σ H'
def DO (X : Cx) (M : Mx) (W : WX) (e : Option Expr) (m : DM (Option Int)) : Prop := ∃ t, PO X e t ∧ ∀ σ H F ρ Q, Sim M F H σ ρ → PostP M W σ ρ F H (m ρ) Q → t σ H Q
def oNone : DM (Option Int) := fun ρ => .ok none ρ
def asPart (r : RV) (ρ : SE) : R (Option Int) := match r with
  | .im (.int i) => .ok (some i) ρ
  | _ => .bad
def oSome (m : DM RV) : DM (Option Int) := fun ρ => (m ρ).bind asPart
theorem do_none : DO X M W none oNone := ⟨_, po_none, fun σ H F ρ Q sm h => h F H (Stp.refl _ _ _ _) sm⟩
theorem do_some (he : DE X M W e m) : DO X M W (some e) (oSome m) := by
  obtain ⟨t, p, q⟩ := he
  refine ⟨_, po_some p, fun σ H F ρ Q sm h => q σ H F ρ _ sm ?_⟩
  unfold oSome at h
  cases e1 : m ρ with
  | bad =>
    rw [e1] at h
    exact h
  | ex x ρ1 =>
    rw [e1] at h
    exact h
  | ok r ρ1 =>
    rw [e1] at h
    intro F1 H1 v st1 sm1 ok1
    cases r with
    | im d =>
      cases d with
      | int i =>
        cases ok1
        exact ⟨i, rfl, h F1 H1 st1 sm1⟩
      | _ => exact h.elim
    | _ => exact h.elim
def slD (d : D) (lo hi : Option Int) : Option RV := match d with
  | .lst ds => some (.ow (.ls (cutL ds lo hi)))
  | .tup ds => some (.im (.tup (cutL ds lo hi)))
  | .scr ns => some (.ow (.ls ((cutL ns lo hi).map D.int)))
  | .str z => if z.length ≤ 1000000 then some (.im (.str (cutS z lo hi))) else none
  | _ => none
abbrev rSlAll (K : PySem.W.Frag) : V → Option Int → Option Int → Hp → VK → Prop := fun x lo hi H Q => rSlL K x lo hi H Q ∨ (rSlA K x lo hi H Q ∨ rSlS x lo hi H Q)
theorem sl_all : SlR X (rSlAll X.K) := sl_list.or (sl_tupA.or sl_str)
theorem cut_whole {α : Type} {xs : List α} {lo hi : Option Int} (h1 : HT.sIx xs.length 0 lo = 0) (h2 : HT.sIx xs.length xs.length hi = xs.length) : cutL xs lo hi = xs := by
  unfold cutL
  rw [h1, h2]
  simp
theorem cutV_map {ns : List Int} {lo hi : Option Int} : cutV (ns.map V.int) lo hi = (cutL ns lo hi).map V.int := by
  unfold cutV cutL
  rw [List.length_map, List.map_take, List.map_drop]
theorem sl_ok (sub : SubF F H) {x : V} {d : D} {lo hi : Option Int} {rv : RV} {Q : VK} (hx : Vw M F H x d) (hg : slD d lo hi = some rv) (k : ∀ F' H' v, Alc F H F' H' → RvNew M H F' H' v rv → Q v H') : rSlAll M.K x lo hi H Q := by
  unfold slD at hg
  split at hg
  · cases hg
    obtain ⟨a, vs, e, h1, r⟩ := hx
    exact .inl ⟨a, vs, e, .inl (.inl h1), fun p hp => new_lst sub (cut_rep r lo hi) k hp⟩
  · cases hg
    have hx' := hx
    obtain ⟨a, vs, e, h1, r⟩ := vw_tup hx
    subst e
    refine .inr (.inl ⟨a, vs, rfl, sub.sqT h1, fun ⟨z1, z2⟩ => ?_, fun _ p hp => new_tup sub (cut_rep r lo hi) k hp⟩)
    rw [r.length] at z1 z2
    refine k _ _ _ (Alc.refl sub) ?_
    rw [cut_whole z1 z2]
    exact hx'
  · rename_i ns
    cases hg
    cases hx with
    | scr h1 =>
      refine .inl ⟨_, _, rfl, sub.sqL h1, fun p hp => ?_⟩
      rw [cutV_map]
      exact new_lst sub (Reps.ofInts _) k hp
  · obtain ⟨hz, e⟩ := some_ite hg
    cases e
    exact .inr (.inr ⟨_, vw_str hx, szle hz, k _ _ _ (Alc.refl sub) RvNew.str⟩)
  · cases hg
def dSl (ma : DM RV) (ml mh : DM (Option Int)) : DM RV := fun ρ => (ma ρ).bind fun x ρ1 => (ml ρ1).bind fun l ρ2 => (mh ρ2).bind fun u ρ3 => ofO ((look ρ3 x).bind fun d => slD d l u) ρ3
theorem PostP.goE {r : R (Option Int)} {Q : VK} {g : Option Int → SE → R RV} (h : Post M W σ ρ F H (r.bind g) Q) {Q' : Option Int → Hp → Prop}
    (k : ∀ a ρ1 F1 H1, Stp F H σ ρ F1 H1 σ ρ1 → Sim M F1 H1 σ ρ1 → Post M W σ ρ F H (g a ρ1) Q → Q' a H1) : PostP M W σ ρ F H r Q' := by
  cases r with
  | bad => exact h
  | ok a ρ1 => exact fun F1 H1 st sm => k a ρ1 F1 H1 st sm h
  | ex e ρ1 => exact h
theorem de_sl {lo hi : Option Expr} {ml mh : DM (Option Int)} {p2 : Pos} (ha : DE X M W a ma) (hl : DO X M W lo ml) (hh : DO X M W hi mh) (hK : M.K = X.K := by rfl) : DE X M W (.Subscript a (.Slice lo hi none p2) pos) (dSl ma ml mh) := by
  obtain ⟨ta, pa, qa⟩ := ha
  obtain ⟨tl, pl, ql⟩ := hl
  obtain ⟨th, ph, qh⟩ := hh
  refine ⟨_, pe_slice sl_all pa pl ph, fun σ H F ρ Q sm h => ?_⟩
  refine qa σ H F ρ _ sm (Post.go h fun x ρ1 F1 H1 v _ st1 sm1 ok1 h1 => ?_)
  refine ql σ H1 F1 ρ1 _ sm1 (PostP.goE (Post.from st1 h1) fun l ρ2 F2 H2 st2 sm2 h2 => ?_)
  refine qh σ H2 F2 ρ2 _ sm2 (PostP.goE (Post.from st2 h2) fun u ρ3 F3 H3 st3 sm3 h3 => ?_)
  obtain ⟨rv, e, k⟩ := Post.fin' h3 st3 sm3
  obtain ⟨d, l1, hg⟩ := bind_some1 e
  exact hK ▸ sl_ok sm3.sub (ok1.view (st2.trans st3) sm3 l1) hg k
end
end DL

/- part -/
set_option Elab.async false
set_option linter.all false
set_option maxRecDepth 100000
set_option maxHeartbeats 4000000
namespace DL
open PySem PySem.Spec PyProof.Rows L2
section
variable {M : Mx} {W : WX} {X : Cx} {F H F' H' F1 H1 F2 H2 H0 : Hp} {σ σ1 : L2.St} {ρ ρ1 ρ2 : SE}
variable {a b c e tg : Expr} {ma mb mc m : DM RV} {mt mu : DM Bool} {es : List Expr} {pos p : Pos} {mv : DM (List D)} {ms : DM (List AV)}
theorem it_range (lo : Int) (n : Nat) : ItOk M (Itr lo n) F ((List.range n).map fun (i : Nat) => D.int (lo + i)) := fun i F2 H2 sa sub => by
  refine ⟨fun d hd => ?_, fun hl => by
    rw [List.length_map, List.length_range] at hl
    exact hl⟩
  rw [List.getElem?_map] at hd
  obtain ⟨j, h1, h2⟩ := map_some hd
  obtain ⟨hi, hj⟩ := List.getElem?_eq_some_iff.mp h1
  rw [List.getElem_range] at hj
  rw [List.length_range] at hi
  subst hj h2
  refine ⟨hi, fun x H' y => ?_⟩
  obtain ⟨e1, e2⟩ := y
  subst e1 e2
  exact ⟨F2, Alc.refl sub, .int _⟩
def rngOk (j : Int) : Bool := decide (-1000000000000 ≤ j ∧ j ≤ 1000000000000)
def iRange1 (mv : DM (List D)) : DM (List D) := fun ρ => (mv ρ).bind fun ds ρ1 => match ds with
  | [.int j] => if rngOk j = true then .ok ((List.range j.toNat).map fun (i : Nat) => D.int (0 + (i : Int))) ρ1 else .bad
  | _ => .bad
theorem PostV.goI {r : R (List D)} {Q : It → Hp → Prop} {g : List D → SE → R (List D)} (h : PostI M W σ ρ F H (r.bind g) Q) {Q' : List V → Hp → Prop}
    (k : ∀ a ρ1 F1 H1 v, r = .ok a ρ1 → Stp F H σ ρ F1 H1 σ ρ1 → Sim M F1 H1 σ ρ1 → Vws M F1 H1 v a → PostI M W σ ρ F H (g a ρ1) Q → Q' v H1) : PostV M W σ ρ F H r Q' := by
  cases r with
  | bad => exact h
  | ok a ρ1 => exact fun F1 H1 v st sm ok => k a ρ1 F1 H1 v rfl st sm ok h
  | ex e ρ1 => exact h
theorem di_range1 (ha : DV X M W [a] mv) (hm : X.mg "range" = none) (hg : Gl X "range" := by rfl) (hs : starEach [a] X.env = [(false, eval a X.env)] := by rfl) : DI X M W tg (.Call (.Name "range" p) [a] [] pos) (iRange1 mv) := by
  obtain ⟨t, pa, qa⟩ := ha
  refine ⟨_, pi_range1 hg hm pa hs, fun σ H F ρ Q sm h => ?_⟩
  refine qa σ H F ρ _ sm (PostV.goI h fun ds ρ1 F1 H1 vs e0 st1 sm1 ok1 h1 => ?_)
  clear e0
  split at h1
  · rename_i j
    split at h1
    · rename_i hj
      obtain ⟨v, rfl, hv⟩ := vws1 ok1
      have hj2 : -1000000000000 ≤ j ∧ j ≤ 1000000000000 := of_decide_eq_true hj
      exact ⟨j, by rw [vw_int hv], by omega, by omega, h1 F1 H1 _ st1 sm1 (it_range 0 j.toNat)⟩
    · exact h1.elim
  · exact h1.elim
def zipD (xs ys : List D) : List D := List.zipWith (fun x y => D.tup [x, y]) xs ys
theorem zip_get {xs ys : List D} {i : Nat} {d : D} (h : (zipD xs ys)[i]? = some d) : ∃ x y, xs[i]? = some x ∧ ys[i]? = some y ∧ d = .tup [x, y] := by
  unfold zipD at h
  rw [List.getElem?_zipWith] at h
  split at h
  · rename_i x y h1 h2
    exact ⟨x, y, h1, h2, (Option.some.inj h).symm⟩
  · cases h
theorem PostA.goI {r : R (List AV)} {Q : It → Hp → Prop} {g : List AV → SE → R (List D)} (h : PostI M W σ ρ F H (r.bind g) Q) {Q' : List V → Hp → Prop}
    (k : ∀ a ρ1 F1 H1 v, r = .ok a ρ1 → Stp F H σ ρ F1 H1 σ ρ1 → Sim M F1 H1 σ ρ1 → AvsOk M F1 σ ρ1 v a → PostI M W σ ρ F H (g a ρ1) Q → Q' v H1) : PostA M W σ ρ F H r Q' := by
  cases r with
  | bad => exact h
  | ok a ρ1 => exact fun F1 H1 v st sm ok => k a ρ1 F1 H1 v rfl st sm ok h
  | ex e ρ1 => exact h
def wipeR (ρ : SE) : List Nat → SE
  | [] => ρ
  | v :: vs => (wipeR ρ vs).set v .no
def rest (vs : List Nat) (ρ ρ' : SE) : SE := ρ'.mapIdx fun i sv => if i ∈ vs then (ρ[i]?).getD .no else sv
def noOw (ρ : SE) (vs : List Nat) : Bool := vs.all fun i => match ρ[i]? with
  | some (.ow _ _) => false
  | _ => true
def noEx {α : Type} : R α → R α
  | .ex _ _ => .bad
  | r => r
def cTurn (vs : List Nat) (gm : D → SE → R Unit) (mt : DM Bool) (me : DM RV) (d : D) : DM (Option D) := fun ρ => (noEx (gm d (wipeR ρ vs))).bind fun _ ρ1 => (noEx (mt ρ1)).bind fun k ρ2 =>
  if k = true then (noEx (dFz me ρ2)).bind fun y ρ3 => .ok (some y) (rest vs ρ ρ3) else .ok none (rest vs ρ ρ2)
def addO (acc : List D) : Option D → List D
  | some y => acc ++ [y]
  | none => acc
def cLoop (vs : List Nat) (gm : D → SE → R Unit) (mt : DM Bool) (me : DM RV) : List D → List D → SE → R (List D)
  | [], acc, ρ => .ok acc ρ
  | d :: ds, acc, ρ => if (noOw ρ vs && decide (acc.length < 1000000)) = true then (cTurn vs gm mt me d ρ).bind fun o ρ1 => cLoop vs gm mt me ds (addO acc o) ρ1 else .bad
def dLc (vs : List Nat) (mi : DM (List D)) (gm : D → SE → R Unit) (mt : DM Bool) (me : DM RV) : DM RV := fun ρ => (mi ρ).bind fun ds ρ1 => (cLoop vs gm mt me ds [] ρ1).bind fun ys ρ2 => .ok (.ow (.ls ys)) ρ2
theorem wipeR_len (ρ : SE) : ∀ vs, (wipeR ρ vs).length = ρ.length
  | [] => rfl
  | v :: vs => by
    unfold wipeR
    rw [List.length_set, wipeR_len ρ vs]
theorem wipeR_out {ρ : SE} {i : Nat} : ∀ {vs : List Nat}, i ∉ vs → (wipeR ρ vs)[i]? = ρ[i]?
  | [], _ => rfl
  | v :: vs, h => by
    unfold wipeR
    rw [List.getElem?_set_ne (fun z => h (by rw [z]; exact List.mem_cons_self))]
    exact wipeR_out fun z => h (List.mem_cons_of_mem _ z)
theorem wipeR_in {ρ : SE} {i : Nat} {sv : SV} : ∀ {vs : List Nat}, i ∈ vs → (wipeR ρ vs)[i]? = some sv → sv = .no
  | v :: vs, h, e => by
    unfold wipeR at e
    by_cases hv : v = i
    · subst hv
      exact set_eq e
    · rw [List.getElem?_set_ne hv] at e
      rcases List.mem_cons.mp h with z | z
      · exact (hv z.symm).elim
      · exact wipeR_in z e
theorem wipe_out' {σ : L2.St} {i : Nat} {vs : List Nat} (h : i ∉ vs) : (L2.wipe σ vs)[i]? = σ[i]? := L2.wipe_out h
theorem wipe_sim {vs : List Nat} (sm : Sim M F H σ ρ) : Sim M F H (L2.wipe σ vs) (wipeR ρ vs) := by
  have tr : ∀ {i : Nat} {sv : SV}, (wipeR ρ vs)[i]? = some sv → sv ≠ .no → ρ[i]? = some sv ∧ (L2.wipe σ vs)[i]? = σ[i]? := fun {i sv} h hne => by
    by_cases hi : i ∈ vs
    · exact (hne (wipeR_in hi h)).elim
    · rw [wipeR_out hi] at h
      exact ⟨h, wipe_out' hi⟩
  refine ⟨sm.sub0, sm.tabs, by rw [L2.wipe_length, wipeR_len]; exact sm.len, fun i d e => ?_, fun i io ds e => ?_, fun i j a o1 o2 e1 e2 => ?_⟩
  · obtain ⟨h1, h2⟩ := tr e (by simp)
    rw [h2]
    exact sm.im i d h1
  · obtain ⟨h1, h2⟩ := tr e (by simp)
    rw [h2]
    exact sm.ow i io ds h1
  · obtain ⟨io1, ds1, q1⟩ := o1
    obtain ⟨io2, ds2, q2⟩ := o2
    obtain ⟨h1, h2⟩ := tr q1 (by simp)
    obtain ⟨h3, h4⟩ := tr q2 (by simp)
    rw [h2] at e1
    rw [h4] at e2
    exact sm.inj i j a ⟨_, _, h1⟩ ⟨_, _, h3⟩ e1 e2
theorem noOw_at {vs : List Nat} (h : noOw ρ vs = true) {i : Nat} (hi : i ∈ vs) : ¬ isOw ρ i := fun ⟨io, ds, e⟩ => by
  have h2 := List.all_eq_true.mp h i hi
  rw [e] at h2
  cases h2
theorem rest_at {vs : List Nat} {ρ' : SE} {i : Nat} {sv : SV} (hl : ρ'.length = ρ.length) (h : (rest vs ρ ρ')[i]? = some sv) : (i ∈ vs ∧ ρ[i]? = some sv) ∨ (i ∉ vs ∧ ρ'[i]? = some sv) := by
  unfold rest at h
  rw [List.getElem?_mapIdx] at h
  obtain ⟨sw, e1, e2⟩ := map_some h
  by_cases hi : i ∈ vs
  · rw [if_pos hi] at e2
    have lt : i < ρ.length := by
      rw [← hl]
      exact (List.getElem?_eq_some_iff.mp e1).1
    rw [List.getElem?_eq_getElem lt] at e2
    exact .inl ⟨hi, by rw [List.getElem?_eq_getElem lt, ← e2]; rfl⟩
  · rw [if_neg hi] at e2
    subst e2
    exact .inr ⟨hi, e1⟩
theorem rest_out {vs : List Nat} {ρ' : SE} {i : Nat} (hi : i ∉ vs) : (rest vs ρ ρ')[i]? = ρ'[i]? := by
  unfold rest
  rw [List.getElem?_mapIdx]
  cases e : ρ'[i]? with
  | none => rfl
  | some sv => simp [hi]
theorem rest_sim {vs : List Nat} {ρ' : SE} (sm : Sim M F H σ ρ) (no : noOw ρ vs = true) (hw : ∀ j, j ∉ vs → σ1[j]? = σ[j]?) (st : Stp F H (L2.wipe σ vs) (wipeR ρ vs) F' H' σ1 ρ') (sm' : Sim M F' H' σ1 ρ') (hl : ρ'.length = ρ.length) :
    Stp F H σ ρ F' H' σ (rest vs ρ ρ') ∧ Sim M F' H' σ (rest vs ρ ρ') := by
  have o1 : ∀ b, Own (L2.wipe σ vs) (wipeR ρ vs) b → Own σ ρ b := fun b ⟨i, ⟨io, ds, e⟩, e2⟩ => by
    by_cases hi : i ∈ vs
    · cases wipeR_in hi e
    · rw [wipeR_out hi] at e
      rw [wipe_out' hi] at e2
      exact ⟨i, ⟨io, ds, e⟩, e2⟩
  have o3 : ∀ {i : Nat}, isOw (rest vs ρ ρ') i → i ∉ vs ∧ isOw ρ' i := fun {i} ⟨io, ds, e⟩ => by
    rcases rest_at hl e with ⟨hi, e⟩ | ⟨hi, e⟩
    · exact (noOw_at no hi ⟨io, ds, e⟩).elim
    · exact ⟨hi, io, ds, e⟩
  have o2 : ∀ b, Own σ (rest vs ρ ρ') b → Own σ1 ρ' b := fun b ⟨i, o, e2⟩ => by
    obtain ⟨hi, o'⟩ := o3 o
    exact ⟨i, o', by rw [hw i hi]; exact e2⟩
  refine ⟨⟨st.same, fun b o h n nt => st.keep b o h (fun z => n (o1 b z)) nt, fun b z => (st.new b (o2 b z)).elim (fun z => .inl (o1 b z)) .inr, fun b o z => (st.newF b o z).elim .inl fun z => z.elim (fun z => .inr (.inl (o1 b z))) fun z => .inr (.inr z), st.dom, fun i ds e => ⟨rfl, ?_⟩, fun i ds e => ?_⟩,
    ⟨sm'.sub0, sm'.tabs, by unfold rest; rw [List.length_mapIdx, hl]; exact sm.len, fun i d e => ?_, fun i io ds e => ?_, fun i j a p1 p2 e1 e2 => ?_⟩⟩
  · by_cases hi : i ∈ vs
    · exact (noOw_at no hi ⟨_, _, e⟩).elim
    · obtain ⟨_, ds', e2⟩ := st.io i ds (by rw [wipeR_out hi]; exact e)
      exact ⟨ds', by rw [rest_out hi]; exact e2⟩
  · rcases rest_at hl e with ⟨hi, e⟩ | ⟨hi, e⟩
    · exact ⟨ds, e⟩
    · obtain ⟨ds', e2⟩ := st.noio i ds e
      rw [wipeR_out hi] at e2
      exact ⟨ds', e2⟩
  · rcases rest_at hl e with ⟨hi, e⟩ | ⟨hi, e⟩
    · obtain ⟨v, e1, r⟩ := sm.im i d e
      exact ⟨v, e1, r.up st.same⟩
    · rw [← hw i hi]
      exact sm'.im i d e
  · rcases rest_at hl e with ⟨hi, e⟩ | ⟨hi, e⟩
    · exact (noOw_at no hi ⟨_, _, e⟩).elim
    · rw [← hw i hi]
      exact sm'.ow i io ds e
  · obtain ⟨h1, q1⟩ := o3 p1
    obtain ⟨h2, q2⟩ := o3 p2
    exact sm'.inj i j a q1 q2 (by rw [hw i h1]; exact e1) (by rw [hw j h2]; exact e2)
end
end DL

/- part -/
set_option Elab.async false
set_option linter.all false
set_option maxRecDepth 100000
set_option maxHeartbeats 4000000
namespace DL
open PySem PySem.Spec PyProof.Rows L2
section
variable {M : Mx} {W : WX} {X : Cx} {F H F' H' F1 H1 F2 H2 H0 : Hp} {σ σ1 : L2.St} {ρ ρ1 ρ2 : SE}
variable {a b c e tg : Expr} {ma mb mc m : DM RV} {mt mu : DM Bool} {es : List Expr} {pos p : Pos} {mv : DM (List D)} {ms : DM (List AV)}
theorem free_upd {F0 : Hp} {σ0 : L2.St} {ρ0 : SE} {x : Addr} {vs ws : List V} (st : Stp F0 H0 σ0 ρ0 F H σ ρ) (sm : Sim M F H σ ρ) (hx : H x = some (.lst vs)) (n0 : Fre H0 x) (nF : F x = none) (no : ¬ Own σ ρ x) :
    Stp F0 H0 σ0 ρ0 F (upd H x (.lst ws)) σ ρ ∧ Sim M F (upd H x (.lst ws)) σ ρ := by
  have tb : LamX.Tabs M.T (upd H x (.lst ws)) := tabs_updG (M := M) (F := F) (oc := .ls []) (o := .lst []) (H := upd H x (.lst [])) upd_same (.ls .nil) (fun p hp => by
    obtain ⟨ps, h1, h2, h3⟩ := sm.tabs p hp
    refine ⟨ps, ?_, h2, fun pos cv hc => ?_⟩
    · rw [upd_ne]
      · exact h1
      · intro z
        rw [z, hx] at h1
        cases h1
    · obtain ⟨c, e1, e2⟩ := h3 pos cv hc
      refine ⟨c, e1, ?_⟩
      rw [upd_ne]
      · exact e2
      · intro z
        rw [z, hx] at e2
        cases e2) |> fun z => by rw [upd_upd] at z; exact z
  refine ⟨⟨st.same, fun b o h n nt => ?_, st.new, st.newF, fun b z => ?_, st.io, st.noio⟩, ⟨⟨⟨fun b o h nb => ?_, fun b n vs h => ?_⟩, sm.ntb⟩, tb, sm.len, sm.im, fun i io ds z => ?_, sm.inj⟩⟩
  · rw [upd_ne (n0.ne h nt)]
    exact st.keep b o h n nt
  · exact st.dom b z.back
  · rw [upd_ne (ne_of_none h nF)]
    exact sm.sub.go b o h nb
  · rw [upd_ne (ne_of_none h nF)]
    exact sm.sub.bk b n vs h
  · obtain ⟨a, us, e1, e2, e3, e4⟩ := sm.ow i io ds z
    refine ⟨a, us, e1, ?_, e3, e4⟩
    rw [upd_ne]
    · exact e2
    · intro z2
      subst z2
      exact no ⟨i, ⟨io, ds, z⟩, e1⟩
theorem wipe_but {vs sl : List Nat} (hs : ∀ i ∈ sl, i ∈ vs) (b : But sl (L2.wipe σ vs) σ1) : L2.wipe σ1 vs = L2.wipe σ vs ∧ ∀ j, j ∉ vs → σ1[j]? = σ[j]? := by
  have h1 : ∀ j, j ∉ vs → σ1[j]? = σ[j]? := fun j hj => by
    rw [b.2 j fun z => hj (hs j z), wipe_out' hj]
  refine ⟨List.ext_getElem? fun j => ?_, h1⟩
  have hl : σ1.length = σ.length := by rw [b.1, L2.wipe_length]
  by_cases hj : j ∈ vs
  · have ww : ∀ τ : L2.St, τ.length = σ.length → (L2.wipe τ vs)[j]? = if j < σ.length then some none else none := fun τ ht => by
      by_cases lt : j < σ.length
      · rw [if_pos lt]
        have lt2 : j < (L2.wipe τ vs).length := by
          rw [L2.wipe_length, ht]
          exact lt
        cases q : (L2.wipe τ vs)[j]? with
        | none =>
          rw [List.getElem?_eq_getElem lt2] at q
          cases q
        | some o =>
          cases o with
          | none => rfl
          | some v => exact ((L2.wipe_some q).2 hj).elim
      · rw [if_neg lt]
        exact List.getElem?_eq_none (by rw [L2.wipe_length, ht]; omega)
    rw [ww σ1 hl, ww σ rfl]
  · rw [wipe_out' hj, wipe_out' hj]
    exact h1 j hj
theorem noEx_ok {α : Type} {r : R α} {b : α} {ρ' : SE} (h : noEx r = .ok b ρ') : r = .ok b ρ' := by
  cases r with
  | bad => cases h
  | ok a ρ => exact h
  | ex e ρ => cases h
def W0 : WX := fun _ _ _ _ => False
def DTs (X : Cx) (M : Mx) (W : WX) (es : List Expr) (m : DM Bool) : Prop := ∃ te, PTs X es te ∧ ∀ σ H F ρ Q, Sim M F H σ ρ → PostT M W σ ρ F H (m ρ) Q → te σ H Q
def tYesD : DM Bool := fun ρ => .ok true ρ
theorem dts_nil : DTs X M W [] tYesD := ⟨_, pts_nil, fun σ H F ρ Q sm h => h F H (Stp.refl _ _ _ _) sm⟩
theorem q_lc {wi : TI} {g : TG} {tt : TT} {te : TE} {vs sl : List Nat} {mi : DM (List D)} {gm : D → SE → R Unit} {me : DM RV} (hsl : ∀ i ∈ sl, i ∈ vs) (nx : NoEx gm) (qi : ∀ σ H F ρ Q, Sim M F H σ ρ → PostI M W σ ρ F H (mi ρ) Q → wi σ H Q)
    (qg : ∀ v d σ H F ρ (Q : L2.St → Hp → Prop), Sim M F H σ ρ → Rep M F v d → (∃ ρ', gm d ρ = .ok () ρ' ∧ ∀ σ', But sl σ σ' → (∀ F0 H0 σ0 ρ0, Stp F0 H0 σ0 ρ0 F H σ ρ → Stp F0 H0 σ0 ρ0 F H σ' ρ') → Sim M F H σ' ρ' → Q σ' H) → g v σ H Q)
    (qt : ∀ σ H F ρ Q, Sim M F H σ ρ → PostT M W0 σ ρ F H (mt ρ) Q → tt σ H Q) (qe : ∀ σ H F ρ Q, Sim M F H σ ρ → Post M W0 σ ρ F H (me ρ) Q → te σ H Q) : ∀ σ H F ρ Q, Sim M F H σ ρ → Post M W σ ρ F H (dLc vs mi gm mt me ρ) Q → tLc wi g tt te vs σ H Q := fun σ H F ρ Q sm h => by
  refine qi σ H F ρ _ sm ?_
  unfold dLc at h
  cases e0 : mi ρ with
  | bad =>
    rw [e0] at h
    exact h
  | ex x ρ1 =>
    rw [e0] at h
    exact h
  | ok ds ρ1 =>
    rw [e0] at h
    intro F1 H1 J st1 sm1 it D hD
    have h : Post M W σ ρ F H ((cLoop vs gm mt me ds [] ρ1).bind fun ys ρ2 => .ok (.ow (.ls ys)) ρ2) Q := h
    have hD0 : Fre H D := st1.dom D (.of hD)
    have nF1 : F1 D = none := sm1.sub.free hD
    have nO1 : ¬ Own σ ρ1 D := fun z => by
      obtain ⟨_, ws, e, _⟩ := sm1.ownF z
      rw [hD] at e
      cases e
    have al0 := Alc.new (o := HO.lst []) sm1.sub hD
    refine ⟨fun i k H' => k = ds.length - i ∧ i ≤ ds.length ∧ ∃ F' ρ' acc av, Same F1 F' ∧ Stp F H σ ρ F' H' σ ρ' ∧ Sim M F' H' σ ρ' ∧ H' D = some (.lst av) ∧ F' D = none ∧ ¬ Own σ ρ' D ∧ Reps M F' av acc ∧ Post M W σ ρ F H ((cLoop vs gm mt me (ds.drop i) acc ρ').bind fun ys ρ2 => .ok (.ow (.ls ys)) ρ2) Q,
      ⟨ds.length, by simp, Nat.zero_le _, F1, ρ1, [], [], Same.refl _, st1.trans (al0.stp _ _), sm1.alc al0, upd_same, nF1, nO1, .nil, h⟩, ?_⟩
    rintro i k H2 ⟨rfl, hi, F2, ρ2, acc, av, sa, st2, sm2, hd2, nF2, nO2, ra, h2⟩
    by_cases lt : i < ds.length
    · have ed : ds.drop i = ds[i] :: ds.drop (i + 1) := List.drop_eq_getElem_cons lt
      rw [ed] at h2
      obtain ⟨g1, g2⟩ := (it i F2 H2 sa sm2.sub).1 ds[i] (List.getElem?_eq_getElem lt)
      refine .inr ⟨g1, fun H' => ∃ F' ρ' acc av, Same F1 F' ∧ Stp F H σ ρ F' H' σ ρ' ∧ Sim M F' H' σ ρ' ∧ H' D = some (.lst av) ∧ F' D = none ∧ ¬ Own σ ρ' D ∧ Reps M F' av acc ∧ Post M W σ ρ F H ((cLoop vs gm mt me (ds.drop (i + 1)) acc ρ').bind fun ys ρ2 => .ok (.ow (.ls ys)) ρ2) Q, fun H' q => ⟨ds.length - (i + 1), by omega, rfl, lt, q⟩, fun x H3 y => ?_⟩
      obtain ⟨F3, al, rx⟩ := g2 x H3 y
      have sm3 := sm2.alc al
      have hd3 := al.sameH _ _ hd2
      have nF3 := al.free nF2 hd2
      have h2 : Post M W σ ρ F H ((if (noOw ρ2 vs && decide (acc.length < 1000000)) = true then (cTurn vs gm mt me ds[i] ρ2).bind fun o ρ1 => cLoop vs gm mt me (ds.drop (i + 1)) (addO acc o) ρ1 else .bad).bind fun ys ρ2 => .ok (.ow (.ls ys)) ρ2) Q := h2
      by_cases cnd : (noOw ρ2 vs && decide (acc.length < 1000000)) = true
      · rw [if_pos cnd] at h2
        obtain ⟨no2, lt2⟩ := Bool.and_eq_true_iff.mp cnd
        have lt2 : acc.length < 1000000 := of_decide_eq_true lt2
        have smw := wipe_sim (vs := vs) sm3
        have nOw : ¬ Own (L2.wipe σ vs) (wipeR ρ2 vs) D := fun ⟨l, ⟨io, es, z⟩, z2⟩ => by
          by_cases hl : l ∈ vs
          · cases wipeR_in hl z
          · rw [wipeR_out hl] at z
            rw [wipe_out' hl] at z2
            exact nO2 ⟨l, ⟨io, es, z⟩, z2⟩
        unfold cTurn at h2
        cases eg : gm ds[i] (wipeR ρ2 vs) with
        | bad =>
          rw [eg] at h2
          exact h2.elim
        | ex x2 ρ3 => exact (nx _ _ _ _ eg).elim
        | ok u ρ3 =>
          rw [eg] at h2
          refine qg x ds[i] (L2.wipe σ vs) H3 F3 (wipeR ρ2 vs) _ smw rx ⟨ρ3, eg, fun σ3 bu st3 sm3' => ?_⟩
          obtain ⟨w1, w2⟩ := wipe_but hsl bu
          refine ⟨w1, ?_⟩
          have st3 := st3 _ _ _ _ (Stp.refl F3 H3 (L2.wipe σ vs) (wipeR ρ2 vs))
          have nO3 : ¬ Own σ3 ρ3 D := fun z => by
            rcases st3.new D z with z | z
            · exact nOw z
            · exact (z.lst hd3).elim
          refine qt σ3 H3 F3 ρ3 _ sm3' ?_
          cases et : mt ρ3 with
          | bad =>
            rw [show noEx (.ok u ρ3) = R.ok u ρ3 from rfl] at h2
            simp only [R.bind, et, noEx] at h2
            exact h2.elim
          | ex x2 ρ4 =>
            rw [show noEx (.ok u ρ3) = R.ok u ρ3 from rfl] at h2
            simp only [R.bind, et, noEx] at h2
            exact h2.elim
          | ok b ρ4 =>
            rw [show noEx (.ok u ρ3) = R.ok u ρ3 from rfl] at h2
            have h2 : Post M W σ ρ F H (((if b = true then (noEx (dFz me ρ4)).bind fun y ρ5 => .ok (some y) (rest vs ρ2 ρ5) else .ok none (rest vs ρ2 ρ4)).bind fun o ρ1 => cLoop vs gm mt me (ds.drop (i + 1)) (addO acc o) ρ1).bind fun ys ρ2 => .ok (.ow (.ls ys)) ρ2) Q := by
              have z := h2
              simp only [R.bind, et, noEx] at z ⊢
              exact z
            intro F4 H4 st4 sm4
            have hd4 : H4 D = some (.lst av) := st4.keep _ _ hd3 nO3 (fun ps z => by cases z)
            have nF4 : F4 D = none := by
              cases z : F4 D with
              | none => rfl
              | some o =>
                rcases st4.newF D o z with z | z | z
                · rw [nF3] at z
                  cases z
                · exact (nO3 z).elim
                · exact (z.lst hd3).elim
            have nO4 : ¬ Own σ3 ρ4 D := fun z => by
              rcases st4.new D z with z | z
              · exact nO3 z
              · exact (z.lst hd3).elim
            have lens : ∀ {ρx : SE}, σ3.length = ρx.length → ρx.length = ρ2.length := fun {ρx} z => by
              rw [← z, bu.1, L2.wipe_length, sm2.len]
            cases b with
            | false =>
              rw [if_neg Bool.false_ne_true] at h2
              rw [if_neg Bool.false_ne_true]
              have st34 := st3.trans st4
              obtain ⟨st5, sm5⟩ := rest_sim sm3 no2 w2 st34 sm4 (lens sm4.len)
              refine ⟨F4, _, acc, av, (sa.trans al.same).trans st34.same, st2.trans ((al.stp σ ρ2).trans st5), sm5, hd4, nF4, fun z => ?_, ra.up (al.same.trans st34.same), h2⟩
              rcases st5.new D z with z | z
              · exact nO2 z
              · exact (z.lst hd3).elim
            | true =>
              rw [if_pos rfl] at h2
              rw [if_pos rfl]
              refine qe σ3 H4 F4 ρ4 _ sm4 (PostD.go ?_)
              have h2 : Post M W σ ρ F H ((((noEx ((me ρ4).bind fz)).bind fun y ρ5 => .ok (some y) (rest vs ρ2 ρ5)).bind fun o ρ1 => cLoop vs gm mt me (ds.drop (i + 1)) (addO acc o) ρ1).bind fun ys ρ2 => .ok (.ow (.ls ys)) ρ2) Q := h2
              cases ee : (me ρ4).bind fz with
              | bad =>
                rw [ee] at h2
                exact h2.elim
              | ex x2 ρ5 =>
                rw [ee] at h2
                exact h2.elim
              | ok y ρ5 =>
                rw [ee] at h2
                have h2 : Post M W σ ρ F H ((cLoop vs gm mt me (ds.drop (i + 1)) (acc ++ [y]) (rest vs ρ2 ρ5)).bind fun ys ρ2 => .ok (.ow (.ls ys)) ρ2) Q := h2
                intro F5 H5 w st5 sm5 rw5
                have hd5 : H5 D = some (.lst av) := st5.keep _ _ hd4 nO4 (fun ps z => by cases z)
                have nF5 : F5 D = none := by
                  cases z : F5 D with
                  | none => rfl
                  | some o =>
                    rcases st5.newF D o z with z | z | z
                    · rw [nF4] at z
                      cases z
                    · exact (nO4 z).elim
                    · exact (z.lst hd4).elim
                have st35 := (st3.trans st4).trans st5
                obtain ⟨st6, sm6⟩ := rest_sim sm3 no2 w2 st35 sm5 (lens sm5.len)
                have nO6 : ¬ Own σ (rest vs ρ2 ρ5) D := fun z => by
                  rcases st6.new D z with z | z
                  · exact nO2 z
                  · exact (z.lst hd3).elim
                have up : Same F2 F5 := al.same.trans st35.same
                refine ⟨av, hd5, by rw [ra.length]; exact szlt lt2, ?_⟩
                obtain ⟨st7, sm7⟩ := free_upd (ws := av ++ [w]) (st2.trans ((al.stp σ ρ2).trans st6)) sm6 hd5 hD0 nF5 nO6
                exact ⟨F5, _, acc ++ [y], av ++ [w], sa.trans up, st7, sm7, upd_same, nF5, nO6, (ra.up up).append (.cons rw5 .nil), h2⟩
      · rw [if_neg cnd] at h2
        exact h2.elim
    · have e1 : i = ds.length := by omega
      subst e1
      refine .inl ⟨(it _ F2 H2 sa sm2.sub).2 (Nat.le_refl _), ?_⟩
      rw [List.drop_length] at h2
      exact h2 F2 H2 _ st2 sm2 ⟨D, _, rfl, hd2, nF2, .ls ra, nO2, hD0⟩
def canE (M : Mx) (W : WX) (m : DM RV) : TE := fun σ H Q => ∃ F ρ, Sim M F H σ ρ ∧ Post M W σ ρ F H (m ρ) Q
def canT (M : Mx) (W : WX) (m : DM Bool) : TT := fun σ H Q => ∃ F ρ, Sim M F H σ ρ ∧ PostT M W σ ρ F H (m ρ) Q
def canG (M : Mx) (sl : List Nat) (gm : D → SE → R Unit) : TG := fun v σ H Q => ∃ d F ρ, Sim M F H σ ρ ∧ Rep M F v d ∧ ∃ ρ', gm d ρ = .ok () ρ' ∧ ∀ σ', But sl σ σ' → (∀ F0 H0 σ0 ρ0, Stp F0 H0 σ0 ρ0 F H σ ρ → Stp F0 H0 σ0 ρ0 F H σ' ρ') → Sim M F H σ' ρ' → Q σ' H
theorem DE.can (h : DE X M W e m) : PE X e (canE M W m) := by
  obtain ⟨t, p, q⟩ := h
  exact ⟨fun pins s σ H Q I ⟨F, ρ, sm, po⟩ => p.run pins s σ H Q I (q σ H F ρ Q sm po)⟩
theorem DT.can (h : DT X M W e mt) : PT X e (canT M W mt) := by
  obtain ⟨t, p, q⟩ := h
  exact ⟨fun pins s σ H Q I ⟨F, ρ, sm, po⟩ => p.run pins s σ H Q I (q σ H F ρ Q sm po)⟩
theorem DTs.can (h : DTs X M W es mt) : PTs X es (canT M W mt) := by
  obtain ⟨t, p, q⟩ := h
  exact ⟨fun pins s σ H Q I ⟨F, ρ, sm, po⟩ => p.run pins s σ H Q I (q σ H F ρ Q sm po)⟩
theorem DG.can {sl : List Nat} {gm : D → SE → R Unit} (h : DG X M tg sl gm) : PG X tg (canG M sl gm) := by
  obtain ⟨_, t, p, q⟩ := h
  exact ⟨fun pins s σ H v u Q I r ⟨d, F, ρ, sm, rd, z⟩ => p.run pins s σ H v u Q I r (q v d σ H F ρ Q sm rd z)⟩
variable {elt iter : Expr} {ifs : List Expr} {scope : Scope} {own : List (Str × Nat)} {sl : List Nat} {mi : DM (List D)} {gm : D → SE → R Unit} {me : DM RV}
theorem NoEx.of (h : DG X M tg sl gm) : NoEx gm := h.1
theorem de_lc (hi : DI X M W tg iter mi) (own : List (Str × Nat)) (ok : BlkOk X.N X.env.scope scope own) (nx : NoEx gm)
    (hg : ∀ (s : Shared) (H : Hp) (C : Addr) (cl : List (Str × Addr)) (fp : List Addr), DG (X.blk s H scope (compEnvC scope cl C X.env) fp) M tg sl gm) (ht : ∀ (s : Shared) (H : Hp) (C : Addr) (cl : List (Str × Addr)) (fp : List Addr), DTs (X.blk s H scope (compEnvC scope cl C X.env) fp) M W0 ifs mt)
    (he : ∀ (s : Shared) (H : Hp) (C : Addr) (cl : List (Str × Addr)) (fp : List Addr), DE (X.blk s H scope (compEnvC scope cl C X.env) fp) M W0 elt me) (hN : X.N.Nodup) (hc : X.calm = true := by rfl) (hsl : ∀ i ∈ sl, i ∈ own.map (·.2) := by decide) (hs : ∀ x, foldedSetIterable iter X.env x = pure x := by intro _; rfl) :
    DE X M W (.ListComp elt [⟨tg, iter, ifs, 0⟩] scope pos) (dLc (own.map (·.2)) mi gm mt me) := by
  obtain ⟨ti, pi, qi⟩ := hi
  refine ⟨_, pe_lc hc hN pi ok (fun s H C cl fp => (hg s H C cl fp).can) (fun s H C cl fp => (ht s H C cl fp).can) (fun s H C cl fp => (he s H C cl fp).can) hs, ?_⟩
  exact q_lc hsl nx qi (fun v d σ H F ρ Q sm r z => ⟨d, F, ρ, sm, r, z⟩) (fun σ H F ρ Q sm po => ⟨F, ρ, sm, po⟩) (fun σ H F ρ Q sm po => ⟨F, ρ, sm, po⟩)
theorem ds_setLc {i : Nat} {y : Str} {py spos : Pos} (hi : DI X M W tg iter mi) (own : List (Str × Nat)) (ok : BlkOk X.N X.env.scope scope own) (nx : NoEx gm)
    (hg : ∀ (s : Shared) (H : Hp) (C : Addr) (cl : List (Str × Addr)) (fp : List Addr), DG (X.blk s H scope (compEnvC scope cl C X.env) fp) M tg sl gm) (ht : ∀ (s : Shared) (H : Hp) (C : Addr) (cl : List (Str × Addr)) (fp : List Addr), DTs (X.blk s H scope (compEnvC scope cl C X.env) fp) M W0 ifs mt)
    (he : ∀ (s : Shared) (H : Hp) (C : Addr) (cl : List (Str × Addr)) (fp : List Addr), DE (X.blk s H scope (compEnvC scope cl C X.env) fp) M W0 elt me) (hN : X.N.Nodup) (hsw : swapsWith (.ListComp elt [⟨tg, iter, ifs, 0⟩] scope pos) (some (.Name y py)) spos.line X.env = pure true) (hy : X.N[i]? = some y := by rfl) (hyl : X.env.scope.names.lookup y = some .local := by rfl) (hc : X.calm = true := by rfl) (hsl : ∀ i ∈ sl, i ∈ own.map (·.2) := by decide) (hs : ∀ x, foldedSetIterable iter X.env x = pure x := by intro _; rfl) :
    DS X M W (.Assign [.Name y py] (.ListComp elt [⟨tg, iter, ifs, 0⟩] scope pos) spos) (sSet i (dLc (own.map (·.2)) mi gm mt me)) := by
  obtain ⟨ti, pi, qi⟩ := hi
  refine ⟨_, ps_setLc hc hN hy hyl hsw pi ok (fun s H C cl fp => (hg s H C cl fp).can) (fun s H C cl fp => (ht s H C cl fp).can) (fun s H C cl fp => (he s H C cl fp).can) hs, ?_⟩
  exact q_set (q_lc hsl nx qi (fun v d σ H F ρ Q sm r z => ⟨d, F, ρ, sm, r, z⟩) (fun σ H F ρ Q sm po => ⟨F, ρ, sm, po⟩) (fun σ H F ρ Q sm po => ⟨F, ρ, sm, po⟩))
end
end DL

/- part -/
set_option Elab.async false
set_option linter.all false
set_option maxRecDepth 100000
set_option maxHeartbeats 4000000
namespace DL
open PySem PySem.Spec PyProof.Rows L2
structure Cal (P : Program) (w : World) (base : Heap) (M : Mx) (x : Str) (k n : Nat) (m : SE → R RV) where
  f : Addr
  fd : FuncData
  ps : List Str
  g : M.mg x = some (.ref f)
  kp : PySem.W.keepIn M.K (.ref f) = true
  b : Binds M.K fd ps []
  ok : FnOk P w M.K M.mg base (L2.CX P w) k f fd ps (spD M n m)
structure CxD (P : Program) (w : World) (base : Heap) (M : Mx) (N : List Str) (sc : Scope) (j : Nat) (X : Cx) (W : WX) : Prop where
  hP : X.prog = P
  hw : X.w = w
  hB : X.base = base
  hK : M.K = X.K
  hM : M.mg = X.mg
  hN : X.N = N
  hs : X.env.scope = sc
  hf : sc.kind = .function
  nd : N.Nodup
  cm : X.calm = true
  hr : Room j X.A
  tk : Takes X W
structure CxF (P : Program) (w : World) (base : Heap) (M : Mx) (N : List Str) (sc : Scope) (j : Nat) (X : Cx) (W : WX) : Prop extends CxD P w base M N sc j X W where
  fn : ∀ x, X.fn x = true
  ps : PassesOwn (model X.prog X.w) X.A X.env X.xe
structure NameOk (sc : Scope) (x : Str) : Prop where
  vis : Vis sc x
  nd : (x == ("__debug__" : Str)) = false
  nc : (x == ("__classdict__" : Str)) = false
structure GlOk (sc : Scope) (x : Str) : Prop where
  gl : sc.names.lookup x = some .globalImplicit
  nd : (x == ("__debug__" : Str)) = false
  nn : x ≠ "__name__"
structure StOk (X : Cx) (x : Str) : Prop where
  loc : Loc X.env.scope x
  fn : X.fn x = true ∨ X.env.scope.names.lookup x = some .local
theorem hu64 {k : Nat} {A : Around} (hr : Room k A) : A.units + 64 < cLine := hr.units
theorem hu65 {k : Nat} {A : Around} (hr : Room k A) : A.units + 65 < cLine := by
  have := hr.un
  omega
section
variable {P : Program} {w : World} {base : Heap} {N : List Str} {sc : Scope} {j : Nat}
variable {M : Mx} {W : WX} {X : Cx} {F H F' H' F1 H1 F2 H2 H0 : Hp} {σ σ1 : L2.St} {ρ ρ1 ρ2 : SE}
variable {a b c e tg k : Expr} {ma mb mc m mk : DM RV} {mt mu : DM Bool} {es : List Expr} {pos pos' p p' tpos : Pos} {mv mi : DM (List D)} {ms : DM (List AV)} {x : Str} {sl : List Nat} {gm : D → SE → R Unit} {s : DM Fl}
theorem CxD.u64 (C : CxD P w base M N sc j X W) : X.A.units + 64 < cLine := hu64 C.hr
theorem CxD.u65 (C : CxD P w base M N sc j X W) : X.A.units + 65 < cLine := hu65 C.hr
theorem CxD.ix (C : CxD P w base M N sc j X W) {i : Nat} (h : N[i]? = some x) : X.N[i]? = some x := by
  rw [C.hN]
  exact h
theorem CxD.nd' (C : CxD P w base M N sc j X W) : X.N.Nodup := by
  rw [C.hN]
  exact C.nd
theorem CxD.glo (C : CxD P w base M N sc j X W) (h : GlOk sc x) : Gl X x := by
  show X.env.scope.names.lookup x = _
  rw [C.hs]
  exact h.gl
theorem CxF.st (C : CxF P w base M N sc j X W) (h : Loc sc x) : StOk X x := ⟨by rw [C.hs]; exact h, .inl (C.fn x)⟩
theorem CxD.stl (C : CxD P w base M N sc j X W) (h : sc.names.lookup x = some .local) : StOk X x := ⟨by rw [C.hs]; exact .inl h, .inr (by rw [C.hs]; exact h)⟩
theorem CxD.blk (C : CxD P w base M N sc j X W) {csc : Scope} (hk : csc.kind = .function) (s : Shared) (H : Hp) (Ca : Addr) (cl : List (Str × Addr)) (fp : List Addr) : CxD P w base M N (L2.relS csc sc) j (X.blk s H csc (compEnvC csc cl Ca X.env) fp) W0 :=
  ⟨C.hP, C.hw, C.hB, C.hK, C.hM, C.hN, by
    show L2.relS csc X.env.scope = _
    rw [C.hs], hk, C.nd, C.cm, C.hr, L2.takes0⟩
theorem cxF_of {E : XK} {qual : Str} {f : Addr} {cd : Value} {A : Around} {outer : List Env} {s : Shared} {H : Hp} {ps : List Str} (S : FnScope N ps sc) (hr : Room j (A.deeper (envOfC qual sc s.heap.objs.size f cd))) :
    CxF P w base M N sc j (cxOf (L2.CX P w) P w M.K M.mg base N qual sc f cd A outer s H E) (fun cls d _ H' => E cls d H') :=
  ⟨⟨rfl, rfl, rfl, rfl, rfl, rfl, rfl, S.kind, S.nd, rfl, hr, takes_of rfl rfl rfl rfl⟩, fun _ => rfl, passes_of rfl⟩
theorem de_v (C : CxD P w base M N sc j X W) (i : Nat) (h : NameOk sc x) (hi : N[i]? = some x := by rfl) : DE X M W (.Name x p) (dVar i) := de_var i (C.ix hi) (by rw [C.hs]; exact h.vis) h.nd h.nc
theorem da_v (C : CxD P w base M N sc j X W) (i : Nat) (h : NameOk sc x) (hs : DA X M W es ms) (hi : N[i]? = some x := by rfl) (hst : starEach (.Name x p :: es) X.env = (false, eval (.Name x p) X.env) :: starEach es X.env := by rfl) : DA X M W (.Name x p :: es) (aIo i ms) := da_io i hs (C.ix hi) (by rw [C.hs]; exact h.vis) h.nd h.nc hst
theorem dg_v (C : CxD P w base M N sc j X W) (i : Nat) (h : StOk X x) (hi : N[i]? = some x := by rfl) : DG X M (.Name x p) [i] (tgName i) := dg_name i C.nd' (C.ix hi) h.loc h.fn
theorem ds_v (C : CxD P w base M N sc j X W) (i : Nat) (h : StOk X x) (he : DE X M W e m) (hi : N[i]? = some x := by rfl) (hs : swapsWith e (some (.Name x pos')) pos.line X.env = pure false := by rfl) : DS X M W (.Assign [.Name x pos'] e pos) (sSet i m) := ds_set he C.nd' (C.ix hi) h.loc hs h.fn
theorem ds_ixv (C : CxD P w base M N sc j X W) (i : Nat) (h : NameOk sc x) (he : DE X M W e m) (hk : DE X M W k mk) (hi : N[i]? = some x := by rfl)
    (ha : ∀ v, assign (.Subscript (.Name x p') k tpos) X.env v = (do
      let ov ← holding [v] (eval (.Name x p') X.env)
      let iv ← holding [v, ov] (eval k X.env)
      standAt tpos
      holding [v, ov, iv] (setItem ov iv v)
      release [v, ov, iv] []) := by intro _; rfl) (hs : swapsWithSole [.Subscript (.Name x p') k tpos] e pos.line X.env = pure false := by rfl) (hw : swappedStores [.Subscript (.Name x p') k tpos] e X.env = pure none := by rfl)
    (h1 : (assignEach [.Subscript (.Name x p') k tpos] X.env).map (·.2) = [assign (.Subscript (.Name x p') k tpos) X.env] := by rfl) : DS X M W (.Assign [.Subscript (.Name x p') k tpos] e pos) (sSub i mk m) := ds_sub he hk (C.ix hi) (by rw [C.hs]; exact h.vis) h.nd h.nc ha hs hw h1
theorem swapped2 {env : Env} {x y : Str} {px py pt pt2 : Pos} {kt k2} (hf : env.scope.kind = .function) (hx : env.scope.names.lookup x = some .local) (hy : env.scope.names.lookup y = some .local) (hl : (py.line == px.line) = true) (hne : (y == x) = false)
    (h1 : ∀ v q, a ≠ .Starred v q) (h2 : ∀ v q, b ≠ .Starred v q) (h3 : [a, b].all (foldedForSure 8) = false) (h4 : [a, b].all (constantsAlone 8) = false) :
    swappedStores [.Tuple [.Name x px, .Name y py] kt pt] (.Tuple [a, b] k2 pt2) env = pure (some [x, y]) := by
  have hb : env.blockKind = .function := by
    unfold Env.blockKind
    rw [hf]
    rfl
  have kx : env.kindOf x = some .local := hx
  have ky : env.kindOf y = some .local := hy
  have hl' : py.line = px.line := eq_of_beq hl
  have hne' : ¬ y = x := fun z => by
    rw [z] at hne
    simp at hne
  unfold swappedStores
  simp only [hb, h3, h4]
  rw [if_neg (by simp), if_neg]
  · simp [kx, ky, Expr.pos, hl', List.eraseDups_cons, hne']
  · intro hh
    simp only [List.any_cons, List.any_nil, Bool.or_false, Bool.or_eq_true] at hh
    rcases hh with hh | hh <;> split at hh <;> first
      | exact h1 _ _ rfl
      | exact h2 _ _ rfl
      | cases hh
theorem ds_parv {x y : Str} {px py pt : Pos} {kt k2 pt2} (C : CxD P w base M N sc j X W) (i l : Nat) (hx : sc.names.lookup x = some .local) (hy : sc.names.lookup y = some .local) (hl : (py.line == px.line) = true) (hne : (y == x) = false) (ha : DA X M W [a, b] ms) (hi : N[i]? = some x := by rfl) (hj : N[l]? = some y := by rfl) (hij : i ≠ l := by decide)
    (h1 : ∀ v q, a ≠ .Starred v q := by intro _ _ z; cases z) (h2 : ∀ v q, b ≠ .Starred v q := by intro _ _ z; cases z) (h3 : [a, b].all (foldedForSure 8) = false := by rfl) (h4 : [a, b].all (constantsAlone 8) = false := by rfl)
    (hs : swapsWithSole [.Tuple [.Name x px, .Name y py] kt pt] (.Tuple [a, b] k2 pt2) pos.line X.env = pure false := by rfl) : DS X M W (.Assign [.Tuple [.Name x px, .Name y py] kt pt] (.Tuple [a, b] k2 pt2) pos) (sPar i l ms) :=
  ds_par ha C.cm C.nd' (C.ix hi) (C.ix hj) hij (by rw [C.hs]; exact hx) (by rw [C.hs]; exact hy) (swapped2 (by rw [C.hs]; exact C.hf) (by rw [C.hs]; exact hx) (by rw [C.hs]; exact hy) hl hne h1 h2 h3 h4) hs
theorem de_callC {k n : Nat} {mm : SE → R RV} (C : CxD P w base M N sc j X W) (Ca : Cal P w base M x k n mm) (g : GlOk sc x) (hk : k ≤ j) (ha : DA X M W (a :: es) ms)
    (he : starEach (a :: es) X.env = (false, eval a X.env) :: starEach es X.env := by rfl) (hpl : (backTo pos (starEach es X.env)).any (·.1) = false := by rfl) :
    DE X M W (.Call (.Name x p) (a :: es) [] pos) (dCall n [] mm ms) := by
  obtain ⟨f, fd, ps, g', kp, b, ok⟩ := Ca
  have hP := C.hP
  have hw := C.hw
  have hB := C.hB
  subst hP hw hB
  rw [C.hK, C.hM] at ok
  rw [C.hK] at kp b
  rw [C.hM] at g'
  exact de_call ok (C.hr.mono hk) g' kp b C.tk ha (C.glo g) g.nd he hpl
theorem de_lm {mname : Str} {r : V → List V → Hp → VK → Prop} {g : List D → List D → Option (D × List D)} (C : CxD P w base M N sc j X W) (i : Nat) (h : NameOk sc x) (o : LmOk M r g) (he : ∀ (to : TE) (t : TA), PE X (.Name x p') to → PA X (a :: es) t → PE X (.Call (.Attribute (.Name x p') mname p) (a :: es) [] pos) (tBM X.K "list" r to t)) (ha : DA X M W (a :: es) ms) (hi : N[i]? = some x := by rfl) :
    DE X M W (.Call (.Attribute (.Name x p') mname p) (a :: es) [] pos) (lmD i g ms) := by
  obtain ⟨t, pa, qa⟩ := ha
  exact ⟨_, he _ _ (pe_var (C.ix hi) (by rw [C.hs]; exact h.vis) h.nd h.nc) pa, C.hK ▸ q_lm qa o⟩
theorem de_cbF {id : String} {r : List V → Hp → VK → Prop} {g : List D → Option RV} (C : CxD P w base M N sc j X W) (hc : CallR X (.builtin id) r) (o : CbOk M r g) (hv : bootBuiltins x = some (.builtin id)) (h : GlOk sc x) (hm : M.mg x = none) (ha : DV X M W (a :: es) mv)
    (he : starEach (a :: es) X.env = (false, eval a X.env) :: starEach es X.env := by rfl) (hpl : (backTo pos (starEach es X.env)).any (·.1) = false := by rfl) : DE X M W (.Call (.Name x p) (a :: es) [] pos) (dCb g mv) := de_cb hc o hv ha (by rw [← C.hM]; exact hm) (C.glo h) h.nn h.nd he hpl
theorem de_ctyF {T : String} {r : List V → Hp → VK → Prop} {g : List D → Option RV} (C : CxD P w base M N sc j X W) (hc : CallR X (.type T) r) (o : CbOk M r g) (hv : bootBuiltins x = some (.type T)) (h : GlOk sc x) (hm : M.mg x = none) (ha : DV X M W (a :: es) mv)
    (he : starEach (a :: es) X.env = (false, eval a X.env) :: starEach es X.env := by rfl) (hpl : (backTo pos (starEach es X.env)).any (·.1) = false := by rfl) : DE X M W (.Call (.Name x p) (a :: es) [] pos) (dCb g mv) := de_cty hc o hv ha (by rw [← C.hM]; exact hm) (C.glo h) h.nn h.nd he hpl
theorem de_lenF (C : CxD P w base M N sc j X W) (h : GlOk sc "len") (hm : M.mg "len" = none) (ha : DV X M W [a] mv) (he : starEach [a] X.env = (false, eval a X.env) :: starEach [] X.env := by rfl) : DE X M W (.Call (.Name "len" p) [a] [] pos) (dCb gLen mv) := de_cbF C call_len (C.hK ▸ cb_len) PySem.boot_len h hm ha he
theorem de_absF (C : CxD P w base M N sc j X W) (h : GlOk sc "abs") (hm : M.mg "abs" = none) (ha : DV X M W [a] mv) (he : starEach [a] X.env = (false, eval a X.env) :: starEach [] X.env := by rfl) : DE X M W (.Call (.Name "abs" p) [a] [] pos) (dCb gAbs mv) := de_cbF C call_abs cb_abs (by decide +kernel) h hm ha he
theorem de_listF (C : CxD P w base M N sc j X W) (h : GlOk sc "list") (hm : M.mg "list" = none) (ha : DV X M W [a] mv) (he : starEach [a] X.env = (false, eval a X.env) :: starEach [] X.env := by rfl) : DE X M W (.Call (.Name "list" p) [a] [] pos) (dCb gList mv) := de_ctyF C call_list_of (C.hK ▸ cb_list) (by decide +kernel) h hm ha he
theorem de_tupleF (C : CxD P w base M N sc j X W) (h : GlOk sc "tuple") (hm : M.mg "tuple" = none) (ha : DV X M W [a] mv) (he : starEach [a] X.env = (false, eval a X.env) :: starEach [] X.env := by rfl) : DE X M W (.Call (.Name "tuple" p) [a] [] pos) (dCb gTuple mv) := de_ctyF C call_tuple_of (C.hK ▸ cb_tuple) (by decide +kernel) h hm ha he
theorem de_allF (C : CxD P w base M N sc j X W) (h : GlOk sc "all") (hm : M.mg "all" = none) (ha : DV X M W [a] mv) (he : starEach [a] X.env = (false, eval a X.env) :: starEach [] X.env := by rfl) : DE X M W (.Call (.Name "all" p) [a] [] pos) (dCb gAll mv) := de_cbF C (cr_all C.cm) (C.hK ▸ cb_all) (by decide +kernel) h hm ha he
theorem di_range1F (C : CxD P w base M N sc j X W) (h : GlOk sc "range") (hm : M.mg "range" = none) (ha : DV X M W [a] mv) (hs : starEach [a] X.env = [(false, eval a X.env)] := by rfl) : DI X M W tg (.Call (.Name "range" p) [a] [] pos) (iRange1 mv) := di_range1 ha (by rw [← C.hM]; exact hm) (C.glo h) hs
theorem de_lcF {elt iter : Expr} {ifs : List Expr} {csc : Scope} {me : DM RV} (C : CxD P w base M N sc j X W) (own : List (Str × Nat)) (ok : BlkOk N sc csc own) (nx : NoEx gm) (hi : DI X M W tg iter mi)
    (hg : ∀ (s : Shared) (H : Hp) (Ca : Addr) (cl : List (Str × Addr)) (fp : List Addr), DG (X.blk s H csc (compEnvC csc cl Ca X.env) fp) M tg sl gm) (ht : ∀ (s : Shared) (H : Hp) (Ca : Addr) (cl : List (Str × Addr)) (fp : List Addr), DTs (X.blk s H csc (compEnvC csc cl Ca X.env) fp) M W0 ifs mt)
    (he : ∀ (s : Shared) (H : Hp) (Ca : Addr) (cl : List (Str × Addr)) (fp : List Addr), DE (X.blk s H csc (compEnvC csc cl Ca X.env) fp) M W0 elt me) (hsl : ∀ i ∈ sl, i ∈ own.map (·.2) := by decide) (hs : ∀ x, foldedSetIterable iter X.env x = pure x := by intro _; rfl) :
    DE X M W (.ListComp elt [⟨tg, iter, ifs, 0⟩] csc pos) (dLc (own.map (·.2)) mi gm mt me) := de_lc hi own (by rw [C.hN, C.hs]; exact ok) nx hg ht he C.nd' C.cm hsl hs
theorem ds_setLcF {y : Str} {elt iter : Expr} {ifs : List Expr} {csc : Scope} {me : DM RV} {py spos : Pos} (C : CxD P w base M N sc j X W) (i : Nat) (hyl : sc.names.lookup y = some .local) (hl : (py.line == pos.line) = true) (hcl : (csc.names.any fun (n, k) => n == y && (k == .local || k == .cell)) = false) (own : List (Str × Nat)) (ok : BlkOk N sc csc own) (nx : NoEx gm) (hi : DI X M W tg iter mi)
    (hg : ∀ (s : Shared) (H : Hp) (Ca : Addr) (cl : List (Str × Addr)) (fp : List Addr), DG (X.blk s H csc (compEnvC csc cl Ca X.env) fp) M tg sl gm) (ht : ∀ (s : Shared) (H : Hp) (Ca : Addr) (cl : List (Str × Addr)) (fp : List Addr), DTs (X.blk s H csc (compEnvC csc cl Ca X.env) fp) M W0 ifs mt)
    (he : ∀ (s : Shared) (H : Hp) (Ca : Addr) (cl : List (Str × Addr)) (fp : List Addr), DE (X.blk s H csc (compEnvC csc cl Ca X.env) fp) M W0 elt me) (hy : N[i]? = some y := by rfl) (hsl : ∀ i ∈ sl, i ∈ own.map (·.2) := by decide) (hs : ∀ x, foldedSetIterable iter X.env x = pure x := by intro _; rfl) :
    DS X M W (.Assign [.Name y py] (.ListComp elt [⟨tg, iter, ifs, 0⟩] csc pos) spos) (sSet i (dLc (own.map (·.2)) mi gm mt me)) :=
  ds_setLc hi own (by rw [C.hN, C.hs]; exact ok) nx hg ht he C.nd' (sw_true (by rw [C.hs]; exact C.hf) (by rw [C.hs]; exact hyl) hl hcl) (C.ix hy) (by rw [C.hs]; exact hyl) C.cm hsl hs
end
end DL

/- part -/
set_option Elab.async false
set_option linter.all false
set_option maxRecDepth 100000
set_option maxHeartbeats 1000000
namespace DL
open PySem PySem.Spec PyProof.Rows L2
def tyO : D → Option String
  | .non => some "NoneType" | .bl _ => some "bool" | .int _ => some "int" | .str _ => some "str" | .tup _ => some "tuple" | .lst _ => some "list" | .scr _ => some "list" | _ => none
def isT (a b : String) : Bool := a == b || (a == "bool" && b == "int")
def isiD (T : String) (d : D) : Option RV := (tyO d).map fun t => .im (.bl (isT t T))
def isiD2 (T U : String) (d : D) : Option RV := (tyO d).map fun t => .im (.bl (isT t T || isT t U))
def tyNs : List String := ["NoneType", "bool", "int", "str", "tuple", "list"]
def KitT (T : String) : Prop := ∀ a ∈ tyNs, kitB a T = some (isT a T)
theorem kit_list : KitT "list" := by unfold KitT; decide +kernel
theorem kit_tuple : KitT "tuple" := by unfold KitT; decide +kernel
theorem kit_int : KitT "int" := by unfold KitT; decide +kernel
theorem kit_bool : KitT "bool" := by unfold KitT; decide +kernel
theorem kit_str : KitT "str" := by unfold KitT; decide +kernel
theorem tyO_mem {d : D} {t : String} (h : tyO d = some t) : t ∈ tyNs := by
  cases d <;> cases h <;> simp [tyNs]
section
variable {M : Mx} {F H F' H' F1 H1 F2 H2 H0 : Hp}
theorem tyx_of {v : V} {d : D} {t : String} (sub : SubF F H) (h : Vw M F H v d) (e : tyO d = some t) : TyX M.K H v (.type t) := by
  cases d with
  | non =>
    cases e
    rw [vw_non h]
    exact .base .non
  | bl b =>
    cases e
    rw [vw_bl h]
    exact .base (.bl _)
  | int i =>
    cases e
    rw [vw_int h]
    exact .base (.int _)
  | str x =>
    cases e
    rw [vw_str h]
    exact .base (.str _)
  | tup ds =>
    cases e
    obtain ⟨a, vs, e1, h1, _⟩ := vw_tup h
    subst e1
    rcases h1 with (h1 | ⟨o, h1⟩) | ⟨o, its, n, h1, h2, _⟩
    · exact .base (.tup (sub.go _ _ h1))
    · exact .fTuple (sub.go _ _ h1)
    · exact .kTuple h1 h2
  | lst ds =>
    cases e
    obtain ⟨a, vs, e1, h1, _⟩ := h
    subst e1
    exact .base (.lst h1)
  | scr ns =>
    cases e
    cases h with
    | scr h1 =>
      rcases h1 with (h1 | ⟨o, h1⟩) | ⟨o, its, n, h1, h2, _⟩
      · exact .base (.lst (sub.go _ _ h1))
      · exact .base (.frz (sub.go _ _ h1))
      · exact .kList h1 h2
  | obj c fs => cases e
  | fn x => cases e
  | exc c fs => cases e
  | xt k ks vs => cases e
  | tl n ds => cases e
theorem tyx_same {v : V} {t : Value} {K : PySem.W.Frag} (sub : Same H H') (h : TyX K H v t) : TyX K H' v t := by
  cases h with
  | base b =>
    refine .base ?_
    cases b with
    | non => exact .non
    | bl x => exact .bl x
    | int i => exact .int i
    | str x => exact .str x
    | flt x => exact .flt x
    | lst e => exact .lst (sub _ _ e)
    | frz e => exact .frz (sub _ _ e)
    | tup e => exact .tup (sub _ _ e)
    | dK e => exact .dK (sub _ _ e)
    | dT e => exact .dT (sub _ _ e)
    | ins e cl ha hn htk hm => exact .ins (sub _ _ e) cl ha hn htk hm
  | byt b => exact .byt b
  | set e => exact .set (sub _ _ e)
  | kList e c => exact .kList e c
  | kTuple e c => exact .kTuple e c
  | kDict e c => exact .kDict e c
  | fTuple e => exact .fTuple (sub _ _ e)
  | fDict e => exact .fDict (sub _ _ e)
end
section
variable {P : Program} {w : World} {base : Heap} {N : List Str} {sc : Scope} {j : Nat}
variable {M : Mx} {W : WX} {X : Cx} {F H F' H' F1 H1 F2 H2 H0 : Hp} {σ σ1 : L2.St} {ρ ρ1 ρ2 : SE}
variable {a b c e tg k : Expr} {ma mb mc m mk : DM RV} {es : List Expr} {pos pos' p p' p2 p3 tpos : Pos} {ms : DM (List AV)} {x y z : Str} {kt : Nat}
theorem de_isiF (C : CxD P w base M N sc j X W) {T : String} (h : GlOk sc "isinstance") (hm : M.mg "isinstance" = none) (h2 : GlOk sc x) (hm2 : M.mg x = none) (hv : bootBuiltins x = some (.type T)) (hk : KitT T) (ha : DE X M W a ma)
    (hs : starEach (a :: [.Name x p']) X.env = (false, eval a X.env) :: starEach [.Name x p'] X.env := by rfl) (hpl : (backTo pos (starEach [.Name x p'] X.env)).any (·.1) = false := by rfl) :
    DE X M W (.Call (.Name "isinstance" p) [a, .Name x p'] [] pos) (dOp1 (isiD T) ma) := by
  obtain ⟨ta, pa, qa⟩ := ha
  have hm' : X.mg "isinstance" = none := by rw [← C.hM]; exact hm
  have hm2' : X.mg x = none := by rw [← C.hM]; exact hm2
  refine ⟨_, pe_callB call_isi (C.glo h) hm' PyProof.Rows.boot_isinstance (pa_cons pa (pa_cons (pe_bltn (v := .ty T) (C.glo h2) hm2' hv rfl h2.nn h2.nd) pa_nil rfl) hs) h.nn h.nd hs hpl, fun σ H F ρ Q sm h => ?_⟩
  refine qa σ H F ρ _ sm (Post.go h fun v ρ1 F1 H1 u _ st1 sm1 ok1 h1 => ?_)
  obtain ⟨rv, e, k⟩ := Post.fin' h1 st1 sm1
  obtain ⟨d, l1, hg⟩ := bind_some1 e
  have vw := ok1.view0 sm1 l1
  unfold isiD at hg
  cases et : tyO d with
  | none =>
    rw [et] at hg
    cases hg
  | some t =>
    rw [et] at hg
    cases hg
    have ty := tyx_of sm1.sub vw et
    rw [C.hK] at ty
    exact ⟨_, _, _, _, _, rfl, .ty T, ty, kit_ty (hk t (tyO_mem et)), k _ _ _ (Alc.refl sm1.sub) RvNew.bl⟩
theorem de_isi2F (C : CxD P w base M N sc j X W) {T U : String} (h : GlOk sc "isinstance") (hm : M.mg "isinstance" = none) (h2 : GlOk sc x) (hm2 : M.mg x = none) (hv : bootBuiltins x = some (.type T)) (hk : KitT T) (h3 : GlOk sc y) (hm3 : M.mg y = none) (hv3 : bootBuiltins y = some (.type U)) (hk3 : KitT U) (ha : DE X M W a ma)
    (hs : starEach (a :: [.Tuple [.Name x p', .Name y p2] kt p3]) X.env = (false, eval a X.env) :: starEach [.Tuple [.Name x p', .Name y p2] kt p3] X.env := by rfl) (hpl : (backTo pos (starEach [.Tuple [.Name x p', .Name y p2] kt p3] X.env)).any (·.1) = false := by rfl) :
    DE X M W (.Call (.Name "isinstance" p) [a, .Tuple [.Name x p', .Name y p2] kt p3] [] pos) (dOp1 (isiD2 T U) ma) := by
  obtain ⟨ta, pa, qa⟩ := ha
  have hm' : X.mg "isinstance" = none := by rw [← C.hM]; exact hm
  have hm2' : X.mg x = none := by rw [← C.hM]; exact hm2
  have hm3' : X.mg y = none := by rw [← C.hM]; exact hm3
  refine ⟨_, pe_callB call_isiT (C.glo h) hm' PyProof.Rows.boot_isinstance (pa_cons pa (pa_cons (pe_tup (pa_cons (pe_bltn (v := .ty T) (C.glo h2) hm2' hv rfl h2.nn h2.nd) (pa_cons (pe_bltn (v := .ty U) (C.glo h3) hm3' hv3 rfl h3.nn h3.nd) pa_nil rfl) rfl)) pa_nil rfl) hs) h.nn h.nd hs hpl, fun σ H F ρ Q sm h => ?_⟩
  refine qa σ H F ρ _ sm (Post.go h fun v ρ1 F1 H1 u _ st1 sm1 ok1 h1 => ?_)
  obtain ⟨rv, e, k⟩ := Post.fin' h1 st1 sm1
  obtain ⟨d, l1, hg⟩ := bind_some1 e
  have vw := ok1.view0 sm1 l1
  unfold isiD2 at hg
  cases et : tyO d with
  | none =>
    rw [et] at hg
    cases hg
  | some t =>
    rw [et] at hg
    cases hg
    have ty := tyx_of sm1.sub vw et
    rw [C.hK] at ty
    refine ⟨by show 2 ≤ sizeLine; decide, fun q hq => ?_⟩
    refine ⟨_, q, _, _, _, _, rfl, upd_same, .cons (.ty T) (.cons (.ty U) .nil), tyx_same (same_upd hq) ty, ?_, k F1 _ _ (Alc.new sm1.sub hq) RvNew.bl⟩
    refine kitAny_cons (kit_ty (hk t (tyO_mem et))) (fun e1 => ?_) (fun e1 => ?_)
    · refine kitAny_cons (kit_ty (hk3 t (tyO_mem et))) (fun e2 => ?_) (fun e2 => ?_)
      · rw [e1, e2]
        exact kitAny_nil
      · rw [e2, Bool.or_true]
    · rw [e1, Bool.true_or]
def strsO : List D → Option (List Str)
  | [] => some []
  | .str x :: r => (strsO r).map (x :: ·)
  | _ => none
def joinD : D → D → Option RV
  | .str a, .lst ds => (strsO ds).bind fun ys => if (ys.map (·.length)).sum + ys.length * a.length ≤ 16777216 then some (.im (.str (Txt.join a ys))) else none
  | _, _ => none
theorem strs_of : ∀ {ds : List D} {ys : List Str} {vs : List V}, strsO ds = some ys → Reps M F vs ds → vs = ys.map V.str
  | [], _, _, h, r => by
    cases h
    cases r
    rfl
  | d :: ds, ys, _, h, r => by
    cases r with
    | cons r1 r2 =>
      cases d with
      | str x =>
        have h : (strsO ds).map (x :: ·) = some ys := h
        cases e : strsO ds with
        | none =>
          rw [e] at h
          cases h
        | some zs =>
          rw [e] at h
          cases h
          cases r1
          rw [strs_of e r2]
          rfl
      | _ => cases h
def dStrJoin (ma mb : DM RV) : DM RV := fun ρ => (ma ρ).bind fun x ρ1 => match x with
  | .im (.str a) => (mb ρ1).bind fun y ρ2 => ofO ((look ρ2 y).bind (joinD (.str a))) ρ2
  | _ => .bad
theorem de_joinF (C : CxD P w base M N sc j X W) {a e : Expr} {p pos : Pos} (ha : DE X M W a ma) (hb : DE X M W e mb) (hs : starEach [e] X.env = [(false, eval e X.env)] := by rfl) (hbase : attributeBase a "join" X.env (eval a X.env) = eval a X.env := by rfl) (hline : (p.endLine == pos.line) = true := by rfl) :
    DE X M W (.Call (.Attribute a "join" p) [e] [] pos) (dStrJoin ma mb) := by
  obtain ⟨ta, pa, qa⟩ := ha
  obtain ⟨tb, pb, qb⟩ := hb
  refine ⟨_, pe_join pa pb hs hbase hline, fun σ H F ρ Q sm h => ?_⟩
  refine qa σ H F ρ _ sm (Post.go h fun x ρ1 F1 H1 v _ st1 sm1 ok1 h1 => ?_)
  split at h1
  · rename_i s _
    have ev : v = .str s := vw_str (ok1.view0 sm1 (d := .str s) rfl)
    refine ⟨⟨s, ev⟩, ?_⟩
    refine qb σ H1 F1 ρ1 _ sm1 (Post.go (Post.from st1 h1) fun y ρ2 F2 H2 u _ st2 sm2 ok2 h2 => ?_)
    obtain ⟨rv, e, k⟩ := Post.fin' h2 st2 sm2
    obtain ⟨d, l2, hg⟩ := bind_some1 e
    have v2 := ok2.view0 sm2 l2
    unfold joinD at hg
    split at hg
    · rename_i s' ds e0
      cases e0
      cases es : strsO ds with
      | none =>
        rw [es] at hg
        cases hg
      | some ys =>
        rw [es] at hg
        obtain ⟨hz, e3⟩ := some_ite (show (if (ys.map (·.length)).sum + ys.length * s.length ≤ 16777216 then some (RV.im (.str (Txt.join s ys))) else none) = some rv from hg)
        subst e3
        obtain ⟨q, vs, e4, h4, r4⟩ := v2
        subst e4
        rw [strs_of es r4] at h4
        exact ⟨s, q, ys, ev, rfl, .inl (.inl (.inl h4)), hz, k _ _ _ (Alc.refl sm2.sub) RvNew.str⟩
    · cases hg
  · exact h1.elim
def KCon (M : Mx) (x : Str) (d : D) : Prop := ∃ u v, M.mg x = some u ∧ RelV v u ∧ ∀ F, Rep M F v d
theorem KCon.int {i : Int} {t} (h : M.mg x = some (.int i t)) : KCon M x (.int i) := ⟨_, .int i, h, ⟨t, rfl⟩, fun _ => .int i⟩
theorem KCon.str {i : Str} {t} (h : M.mg x = some (.str i t)) : KCon M x (.str i) := ⟨_, .str i, h, ⟨t, rfl⟩, fun _ => .str i⟩
theorem de_k {d : D} (C : CxD P w base M N sc j X W) (h : GlOk sc x) (c : KCon M x d) : DE X M W (.Name x p) (dC d) := by
  obtain ⟨u, v, h1, h2, h3⟩ := c
  exact de_glob (C.glo h) (by rw [← C.hM]; exact h1) h2 h3 h.nd
def keyS (e : DictEntry) : Option Str := match e.key with
  | .str x _ => some x
  | _ => none
structure DefAt (M : Mx) (x : Str) (st : Stmt) (ps : List Str) where
  f : Addr
  fd : FuncData
  g : M.mg x = some (.ref f)
  kp : PySem.W.keepIn M.K (.ref f) = true
  b : Binds M.K fd ps []
  fu : Fun M.K x x st f fd
def DefAt.cal {st : Stmt} {ps : List Str} {n : Nat} {mm : SE → R RV} (d : DefAt M x st ps) (ok : FnOk P w M.K M.mg base (L2.CX P w) j d.f d.fd ps (spD M n mm)) : Cal P w base M x j n mm := ⟨d.f, d.fd, ps, d.g, d.kp, d.b, ok⟩
theorem de_callC0 {k n : Nat} {mm : SE → R RV} (C : CxD P w base M N sc j X W) (Ca : Cal P w base M x k n mm) (g : GlOk sc x) (hk : k ≤ j) : DE X M W (.Call (.Name x p) [] [] pos) (dCall n [] mm aNil) := by
  obtain ⟨f, fd, ps, g', kp, b, ok⟩ := Ca
  have hP := C.hP
  have hw := C.hw
  have hB := C.hB
  subst hP hw hB
  rw [C.hK, C.hM] at ok
  rw [C.hK] at kp b
  rw [C.hM] at g'
  refine ⟨tCallSD (spD M n mm) [] (fun σ cls d H' => W cls d σ H') tNil, ⟨fun pins s σ H Q I h => ?_⟩, q_call (dds := []) (fun σ H F ρ Q sm h => h F H [] (Stp.refl _ _ _ _) sm .nil) fun _ => .nil⟩
  refine wpAny_Call_Name_kw (ld_glob I (C.glo g) g' ?_ g.nd)
  exact PySem.W.callWith_K0 I.kIn kp (run_fnSD (us := []) ok (C.hr.mono hk) b .nil (passAt C.tk σ) I .nil h)
def mBad : SE → R RV := fun _ => .bad
theorem fn_bad {f : Addr} {fd : FuncData} {ps : List Str} {n : Nat} : FnOk P w M.K M.mg base (L2.CX P w) j f fd ps (spD M n mBad) := by
  have no : ∀ vs H Q E, ¬ spD M n mBad vs H Q E := by
    intro vs H Q E h
    obtain ⟨F, svs, _, _, _, hp⟩ := h
    exact hp
  exact ⟨fun vs H Q E h => (no _ _ _ _ h).elim, fun A outer s H args us vs Q E hr he hb hv h => (no _ _ _ _ h).elim⟩
end
end DL

/- part -/
set_option Elab.async false
set_option linter.all false
set_option maxRecDepth 100000
set_option maxHeartbeats 1000000
namespace DL
open PySem PySem.Spec PyProof.Rows L2
def lone (H : Hp) (a : Addr) : Hp := fun b => if b = a then (match H b with
  | some (.lst vs) => some (.lst vs)
  | some (.frz o (.lst vs)) => some (.frz o (.lst vs))
  | _ => none) else none
theorem lone_at {H : Hp} {a b : Addr} {o : HO} (e : lone H a b = some o) : H b = some o ∧ ((∃ vs, o = .lst vs) ∨ ∃ q vs, o = .frz q (.lst vs)) := by
  unfold lone at e
  split at e
  · split at e
    · rename_i h
      cases e
      exact ⟨h, .inl ⟨_, rfl⟩⟩
    · rename_i h
      cases e
      exact ⟨h, .inr ⟨_, _, rfl⟩⟩
    · cases e
  · cases e
theorem lone_sub (H : Hp) (a : Addr) : SubF (lone H a) H := ⟨fun b o e _ => (lone_at e).1, fun b n vs e => by
  rcases (lone_at e).2 with ⟨ws, z⟩ | ⟨q, ws, z⟩ <;> cases z⟩
theorem lone_ntb (H : Hp) (a : Addr) : NoTb (lone H a) := fun b ps e => by
  rcases (lone_at e).2 with ⟨ws, z⟩ | ⟨q, ws, z⟩ <;> cases z
theorem lone_sqL {K : PySem.W.Frag} {H : Hp} {a : Addr} {xs : List V} (h : SqL K H a xs) : SqL K (lone H a) a xs := by
  rcases h with (h | ⟨o, h⟩) | h
  · refine .inl (.inl ?_)
    unfold lone
    rw [if_pos rfl, h]
  · refine .inl (.inr ⟨o, ?_⟩)
    unfold lone
    rw [if_pos rfl, h]
  · exact .inr h
def spLaw (K : PySem.W.Frag) : Sp := fun vs H Q _ => ∃ (a : Addr) (ns : List Int), vs = [.ref a] ∧ SqL K H a (ns.map V.int) ∧ ns.length ≤ 63 ∧ ∀ H', Q (.bl true) H'
def LawGood (m : SE → R RV) : Prop := ∀ ns : List Int, ns.length ≤ 63 → ∃ ρ', m [.im (.scr ns)] = .ok (.im (.bl true)) ρ'
def spLawC (K : PySem.W.Frag) (T : List (Addr × Str)) : Sp := fun vs H Q E => spLaw K vs H Q E ∧ ∀ p ∈ T, H p.1 = some (.tbl #[])
theorem end_sp {M : Mx} {m : SE → R RV} (hm : LawGood m) : ∀ vs H Q E, spLawC M.K M.T vs H Q E → spD M 1 m vs H Q E := by
  intro vs H Q E ⟨h, hT⟩
  obtain ⟨a, ns, rfl, hS, hl, k⟩ := h
  obtain ⟨ρ', e⟩ := hm ns hl
  refine ⟨lone H a, [.im (.scr ns)], rfl, fun i sv h => ?_, ⟨⟨lone_sub H a, lone_ntb H a⟩, fun p hp => .nil (hT p hp), rfl, fun i d h => ?_, fun i io ds h => ?_, fun i j b h => ?_⟩, ?_⟩
  · match i, h with
    | 0, h =>
      cases h
      exact .inl ⟨_, rfl⟩
  · match i, h with
    | 0, h =>
      cases h
      exact ⟨_, rfl, .scr (lone_sqL hS)⟩
  · match i, h with
    | 0, h => cases h
  · obtain ⟨io, ds, h⟩ := h
    match i, h with
    | 0, h => cases h
  · rw [e]
    intro F' H' v st sm ok
    have ok : Rep M F' v (.bl true) := ok
    cases ok
    exact k H'
theorem fn_law {P : Program} {w : World} {base : Heap} {M : Mx} {k : Nat} {f : Addr} {fd : FuncData} {x : Str} {m : SE → R RV} (hm : LawGood m) (F : FnOk P w M.K M.mg base (L2.CX P w) k f fd [x] (spD M 1 m)) : FnOk P w M.K M.mg base (L2.CX P w) k f fd [x] (spLawC M.K M.T) := F.imp (end_sp hm)
theorem walkD {l : PySem.W.OpenLaw} {q : Program} {loose : List Str} {XP : (Str → Option Value) → Heap → Prop} {YP : World → Heap → Prop} {d : DefRec} {K : Params → PySem.W.Frag} {k : Nat} (hr : Room k callerA) (hn : l.most = some 63) (hdf : d.params.defaults = [])
    (hY : ∀ (w : World) (h : Heap), YP w h → (K w.params).In h)
    (F : ∀ (w : World) (mg : Str → Option Value) (fa : Addr) (h : Heap), (K w.params).In h → h.Ns mainGlobals mg → mg d.name = some (.ref fa) →
      ∃ fd : FuncData, (∀ (s : Shared) (u : Value), BindsTo s fd ⟨[u], []⟩ [("_law_script", u)]) ∧ ∀ base : Heap, (K w.params).In base → base.Ns mainGlobals mg → FnOk l.prog w (K w.params) mg base (L2.CX l.prog w) k fa fd ["_law_script"] (spLawC (K w.params) [])) :
    PySem.W.WalkO q loose XP YP l.row.toRowW d [] (fun f vs => PySem.call f vs) :=
  L2.walk_of (n := 63) (k := k) (x := "_law_script") (CX := fun w => L2.CX l.prog w) (sp := fun w => spLawC (K w.params) []) hn (by decide) hdf hr hY F (fun _ _ a ns hl _ hS => ⟨⟨a, ns, rfl, hS, hl, fun _ => rfl⟩, fun p hp => by cases hp⟩) fun _ _ _ _ _ ⟨_, _, _, _, _, _, _, _, _, _, _, _, z⟩ => z
end DL

/- part -/
set_option Elab.async false
set_option linter.all false
set_option maxRecDepth 100000
set_option maxHeartbeats 1000000
namespace DL
open PySem PySem.Spec PyProof.Rows L2
section
variable {α β : Type} {a : α} {ρ ρ1 ρ2 : SE}
@[simp] theorem bind_okA {f : α → SE → R β} : (R.ok a ρ).bind f = f a ρ := rfl
@[simp] theorem bind_badA {f : α → SE → R β} : (R.bad : R α).bind f = .bad := rfl
@[simp] theorem bind_exA {f : α → SE → R β} {e : Exc} : (R.ex e ρ : R α).bind f = .ex e ρ := rfl
@[simp] theorem ofO_someA : ofO (some a) ρ = .ok a ρ := rfl
@[simp] theorem look_imA {d : D} : look ρ (.im d) = some (unl d) := rfl
@[simp] theorem look_owA {oc : OC} : look ρ (.ow oc) = some oc.D := rfl
@[simp] theorem oc_lsA {ds : List D} : (OC.ls ds).D = .lst ds := rfl
@[simp] theorem oc_obA {c : Str} {fs : List (Str × D)} : (OC.ob c fs).D = .obj c fs := rfl
@[simp] theorem unl_nonA : unl .non = .non := rfl
@[simp] theorem unl_blA {b : Bool} : unl (.bl b) = .bl b := rfl
@[simp] theorem unl_intA {i : Int} : unl (.int i) = .int i := rfl
@[simp] theorem unl_strA {x : Str} : unl (.str x) = .str x := rfl
@[simp] theorem unl_tupA {ds : List D} : unl (.tup ds) = .tup ds := rfl
@[simp] theorem unl_lstA {ds : List D} : unl (.lst ds) = .lst ds := rfl
@[simp] theorem unl_scrA {ns : List Int} : unl (.scr ns) = .scr ns := rfl
@[simp] theorem unl_tlA {n : Nat} {ds : List D} : unl (.tl n ds) = .lst ds := rfl
@[simp] theorem unl_objA {c : Str} {fs : List (Str × D)} : unl (.obj c fs) = .obj c fs := rfl
@[simp] theorem unl_xtA {k : Xk} {ks vs : List D} : unl (.xt k ks vs) = .xt k ks vs := rfl
@[simp] theorem unl_excA {c : Str} {fs : List (Str × D)} : unl (.exc c fs) = .exc c fs := rfl
@[simp] theorem unl_fnA {x : Str} : unl (.fn x) = .fn x := rfl
@[simp] theorem fz_imA {d : D} : fz (.im d) ρ = .ok d ρ := rfl
@[simp] theorem fz_owA {oc : OC} : fz (.ow oc) ρ = .ok oc.D ρ := rfl
@[simp] theorem asB_blA {b : Bool} : asB (.im (.bl b)) ρ = .ok b ρ := rfl
@[simp] theorem asSV_imA {d : D} : asSV (.im d) ρ = .ok (.im d) ρ := rfl
@[simp] theorem asSV_owA {oc : OC} : asSV (.ow oc) ρ = .ok (.ow false oc) ρ := rfl
@[simp] theorem notBo_imA {d : D} : notBo (.im d) = true := rfl
@[simp] theorem notBo_owA {d : OC} : notBo (.ow d) = true := rfl
@[simp] theorem atI_0A {x : α} {l : List α} : atI (x :: l) 0 = some x := by
  have := atI_nat (xs := x :: l) (j := 0) (v := x) rfl
  exact this
@[simp] theorem atI_1A {x y : α} {l : List α} : atI (x :: y :: l) 1 = some y := atI_nat (xs := x :: y :: l) (j := 1) (v := y) rfl
@[simp] theorem atI_2A {x y z : α} {l : List α} : atI (x :: y :: z :: l) 2 = some z := atI_nat (xs := x :: y :: z :: l) (j := 2) (v := z) rfl
@[simp] theorem atI_3A {x y z u : α} {l : List α} : atI (x :: y :: z :: u :: l) 3 = some u := atI_nat (xs := x :: y :: z :: u :: l) (j := 3) (v := u) rfl
theorem atI_map {γ : Type} {f : α → γ} {l : List α} {i : Int} : atI (l.map f) i = (atI l i).map f := by
  unfold atI
  rw [List.length_map]
  cases ixN l.length i with
  | none => rfl
  | some j => simp
theorem atI_in {l : List α} {i : Int} (h0 : 0 ≤ i) (h1 : i < l.length) : ∃ x, atI l i = some x ∧ x ∈ l := by
  have hj : i.toNat < l.length := by omega
  refine ⟨l[i.toNat], ?_, List.getElem_mem hj⟩
  have := atI_nat (xs := l) (j := i.toNat) (v := l[i.toNat]) (List.getElem?_eq_getElem hj)
  rw [Int.toNat_of_nonneg h0] at this
  exact this
end
section
variable {i j : Int} {x y : Str} {b c : Bool} {ds es : List D} {d e : D} {ns : List Int}
theorem okc_int : okc (.int i) = true := rfl
theorem okc_bl : okc (.bl b) = true := rfl
def SOk (x : Str) : Prop := okc (.str x) = true
@[simp] theorem eqD_intA : eqD (.int i) (.int j) = some (.im (.bl (decide (i = j)))) := by
  unfold eqD
  rw [if_pos (by rw [okc_int, okc_int]; rfl)]
  congr 3
@[simp] theorem neD_intA : neD (.int i) (.int j) = some (.im (.bl (!decide (i = j)))) := by
  unfold neD
  rw [if_pos (by rw [okc_int, okc_int]; rfl)]
  congr 3
@[simp] theorem eqD_blA : eqD (.bl b) (.bl c) = some (.im (.bl (b == c))) := by
  unfold eqD
  rw [if_pos (by rw [okc_bl, okc_bl]; rfl)]
  rfl
@[simp] theorem neD_blA : neD (.bl b) (.bl c) = some (.im (.bl (!(b == c)))) := by
  unfold neD
  rw [if_pos (by rw [okc_bl, okc_bl]; rfl)]
  rfl
theorem eqD_strA (hx : SOk x) (hy : SOk y) : eqD (.str x) (.str y) = some (.im (.bl (x == y))) := by
  unfold eqD
  rw [if_pos (by rw [show okc (.str x) = true from hx, show okc (.str y) = true from hy]; rfl)]
  rfl
@[simp] theorem addD_intA : addD (.int i) (.int j) = some (.im (.int (i + j))) := rfl
@[simp] theorem subD_intA : subD (.int i) (.int j) = some (.im (.int (i - j))) := rfl
theorem log2_lt {n k : Nat} (h : n < 2 ^ k) (hk : 0 < k) : n.log2 < k := by
  by_cases h0 : n = 0
  · subst h0
    exact hk
  · exact (Nat.log2_lt h0).mpr h
theorem mulD_ok {a b : Nat} (h1 : i.natAbs.log2 < a) (h2 : j.natAbs.log2 < b) (h : a + b ≤ 1000000) : mulD (.int i) (.int j) = some (.im (.int (i * j))) := by
  show (if cMul i j = true then _ else none) = _
  rw [if_pos]
  exact decide_eq_true (by omega)
def Sml (i : Int) : Prop := i.natAbs.log2 < 499999
def Dvs (j : Int) : Prop := j ≠ 0 ∧ j.natAbs.log2 < 9000
theorem Sml.of {i : Int} {k : Nat} (h : i.natAbs < 2 ^ k) (hk : 0 < k) (hk2 : k ≤ 499999) : Sml i := Nat.lt_of_lt_of_le (log2_lt h hk) hk2
theorem Dvs.of {i : Int} {k : Nat} (h0 : i ≠ 0) (h : i.natAbs < 2 ^ k) (hk : 0 < k) (hk2 : k ≤ 9000) : Dvs i := ⟨h0, Nat.lt_of_lt_of_le (log2_lt h hk) hk2⟩
@[simp] theorem mulD_A (h1 : Sml i) (h2 : Sml j) : mulD (.int i) (.int j) = some (.im (.int (i * j))) := mulD_ok h1 h2 (by decide)
@[simp] theorem fdivD_A (h : Dvs j) : fdivD (.int i) (.int j) = some (.im (.int (i.fdiv j))) := by
  show (if cDiv j = true then _ else none) = _
  rw [if_pos]
  exact decide_eq_true h
@[simp] theorem modD_A (h1 : j ≠ 0) : modD (.int i) (.int j) = some (.im (.int (i.fmod j))) := by
  show (if _ then _ else none) = _
  rw [if_pos h1]
@[simp] theorem ltD_intA : ltD (.int i) (.int j) = some (.im (.bl (decide (i < j)))) := rfl
@[simp] theorem gtD_intA : gtD (.int i) (.int j) = some (.im (.bl (decide (j < i)))) := rfl
@[simp] theorem geD_intA : geD (.int i) (.int j) = some (.im (.bl (decide (j ≤ i)))) := rfl
@[simp] theorem ixD_lstA : ixD (.lst ds) (.int i) = (atI ds i).map RV.im := rfl
@[simp] theorem ixD_tupA : ixD (.tup ds) (.int i) = (atI ds i).map RV.im := rfl
@[simp] theorem ixD_scrA : ixD (.scr ns) (.int i) = (atI ns i).map fun n => RV.im (.int n) := rfl
@[simp] theorem gLen_lstA : gLen [.lst ds] = some (.im (.int ds.length)) := rfl
@[simp] theorem gLen_tupA : gLen [.tup ds] = some (.im (.int ds.length)) := rfl
@[simp] theorem gLen_scrA : gLen [.scr ns] = some (.im (.int ns.length)) := rfl
theorem gLen_str (h : x.length ≤ 1000000) : gLen [.str x] = some (.im (.int x.length)) := by
  show (if _ then _ else none) = _
  rw [if_pos h]
@[simp] theorem gList_lstA : gList [.lst ds] = some (.ow (.ls ds)) := rfl
@[simp] theorem gList_scrA : gList [.scr ns] = some (.ow (.ls (ns.map D.int))) := rfl
@[simp] theorem slD_lstA {lo hi : Option Int} : slD (.lst ds) lo hi = some (.ow (.ls (cutL ds lo hi))) := rfl
@[simp] theorem slD_scrA {lo hi : Option Int} : slD (.scr ns) lo hi = some (.ow (.ls ((cutL ns lo hi).map D.int))) := rfl
@[simp] theorem isi_blA {T : String} : isiD T (.bl b) = some (.im (.bl (isT "bool" T))) := rfl
@[simp] theorem isi_intA {T : String} : isiD T (.int i) = some (.im (.bl (isT "int" T))) := rfl
@[simp] theorem isi_strA {T : String} : isiD T (.str x) = some (.im (.bl (isT "str" T))) := rfl
@[simp] theorem isi_lstA {T : String} : isiD T (.lst ds) = some (.im (.bl (isT "list" T))) := rfl
@[simp] theorem isi_tupA {T : String} : isiD T (.tup ds) = some (.im (.bl (isT "tuple" T))) := rfl
@[simp] theorem isi_nonA {T : String} : isiD T .non = some (.im (.bl (isT "NoneType" T))) := rfl
@[simp] theorem isi2_blA {T U : String} : isiD2 T U (.bl b) = some (.im (.bl (isT "bool" T || isT "bool" U))) := rfl
@[simp] theorem isi2_intA {T U : String} : isiD2 T U (.int i) = some (.im (.bl (isT "int" T || isT "int" U))) := rfl
@[simp] theorem isi2_strA {T U : String} : isiD2 T U (.str x) = some (.im (.bl (isT "str" T || isT "str" U))) := rfl
@[simp] theorem isi2_lstA {T U : String} : isiD2 T U (.lst ds) = some (.im (.bl (isT "list" T || isT "list" U))) := rfl
@[simp] theorem isi2_tupA {T U : String} : isiD2 T U (.tup ds) = some (.im (.bl (isT "tuple" T || isT "tuple" U))) := rfl
@[simp] theorem isi2_nonA {T U : String} : isiD2 T U .non = some (.im (.bl (isT "NoneType" T || isT "NoneType" U))) := rfl
theorem cut63 {α : Type} {xs : List α} (h : xs.length ≤ 63) : cutL xs none (some 63) = xs := by
  have e : HT.sIx xs.length xs.length (some 63) = xs.length := by
    have := HT.sIx_nat xs.length xs.length 63
    rw [show (some ((63 : Nat) : Int)) = some (63 : Int) from rfl] at this
    rw [this]
    omega
  unfold cutL
  rw [e, HT.sIx_none]
  simp
end
theorem floop_inv {gm : D → SE → R Unit} {b : DM Fl} {I : SE → Prop} : ∀ {ds : List D} {ρ : SE}, (∀ d ∈ ds, ∀ ρ, I ρ → ∃ ρ1 f ρ2, gm d ρ = .ok () ρ1 ∧ b ρ1 = .ok f ρ2 ∧ (f = .nx ∨ f = .ct) ∧ I ρ2) → I ρ → ∃ ρ', floop gm b ds ρ = .ok .nx ρ' ∧ I ρ'
  | [], ρ, _, h => ⟨ρ, rfl, h⟩
  | d :: ds, ρ, hs, h => by
    obtain ⟨ρ1, f, ρ2, e1, e2, e3, h2⟩ := hs d List.mem_cons_self ρ h
    obtain ⟨ρ', e4, h4⟩ := floop_inv (fun d hd => hs d (List.mem_cons_of_mem _ hd)) h2
    refine ⟨ρ', ?_, h4⟩
    unfold floop
    rw [e1, bind_okA, e2, bind_okA]
    rcases e3 with e3 | e3 <;> subst e3 <;> exact e4
theorem cLoop_pure {vs : List Nat} {gm : D → SE → R Unit} {mt : DM Bool} {me : DM RV} {ρ : SE} {f : D → Option D} (hn : noOw ρ vs = true) : ∀ {ds acc : List D}, (∀ d ∈ ds, cTurn vs gm mt me d ρ = .ok (f d) ρ) → acc.length + ds.length ≤ 1000000 → cLoop vs gm mt me ds acc ρ = .ok (acc ++ ds.filterMap f) ρ
  | [], acc, _, _ => by
    unfold cLoop
    simp
  | d :: ds, acc, hs, hl => by
    rw [List.length_cons] at hl
    unfold cLoop
    rw [if_pos (by rw [hn]; simp; omega), hs d List.mem_cons_self, bind_okA]
    have hh : (addO acc (f d)).length + ds.length ≤ 1000000 := by
      cases f d with
      | none =>
        show acc.length + _ ≤ _
        omega
      | some y =>
        show (acc ++ [y]).length + _ ≤ _
        rw [List.length_append]
        simp
        omega
    rw [cLoop_pure hn (fun d hd => hs d (List.mem_cons_of_mem _ hd)) hh]
    cases e : f d with
    | none => simp [addO, e]
    | some y => simp [addO, e]
theorem cLoop_map {vs : List Nat} {gm : D → SE → R Unit} {mt : DM Bool} {me : DM RV} {ρ : SE} {f : D → D} (hn : noOw ρ vs = true) {ds acc : List D} (h : ∀ d ∈ ds, cTurn vs gm mt me d ρ = .ok (some (f d)) ρ) (hl : acc.length + ds.length ≤ 1000000) : cLoop vs gm mt me ds acc ρ = .ok (acc ++ ds.map f) ρ := by
  rw [cLoop_pure hn (f := fun d => some (f d)) h hl]
  congr 2
  induction ds with
  | nil => rfl
  | cons d ds ih => simp
theorem asBls_map (bs : List Bool) : asBls (bs.map D.bl) = some bs := by
  induction bs with
  | nil => rfl
  | cons b bs ih =>
    rw [List.map_cons]
    unfold asBls
    rw [ih]
    rfl
theorem asBls_trues {α : Type} (zs : List α) : asBls (zs.map fun _ => D.bl true) = some (zs.map fun _ => true) := by
  rw [← asBls_map, List.map_map]
  rfl
end DL

/- part -/
set_option Elab.async false
set_option linter.all false
set_option maxRecDepth 100000
set_option maxHeartbeats 1000000
namespace DL
open PySem PySem.Spec PyProof.Rows L2
def spI (K : PySem.W.Frag) (n : Nat) (mk : List V → List (Str × V)) : Sp := fun vs H Q _ => ∃ (a C : Addr) (ws : List V), vs = .ref a :: ws ∧ ws.length = n ∧ OexC K C ∧ PySem.W.findIn K (.ref C) "tag" = some none ∧ (∀ f ∈ (mk ws).map (·.1), PySem.W.findIn K (.ref C) f = some none) ∧ H a = some (exo a C none) ∧
  ∀ dx, H dx = none → dx ≠ a → Q .non (upd (upd H dx (exd dx (mk ws))) a (exo a C (some dx)))
section
variable {P : Program} {w : World} {base : Heap} {M : Mx} {K : PySem.W.Frag} {mg : Str → Option Value}
theorem init1 {qual T : Str} {st : Stmt} {f : Addr} {fd : FuncData} {j : Nat} {p1 p2 p3 p4 : Pos} (Fu : Fun K "__init__" qual st f fd) (S : FnScope ["self"] ["self"] (defScope st)) (hb : defBody st = [.Assign [.Attribute (.Name "self" p1) "tag" p2] (.Constant (.str T) j p3) p4]) (hv : Vis (defScope st) "self") :
    FnOk P w K mg base (L2.CX P w) 1 f fd ["self"] (spI K 0 fun _ => [("tag", .str T)]) := by
  refine Fu.okX S (fun vs H Q E h => ?_) (fun cdv A outer s H vs Q E hr h => ?_)
  · obtain ⟨a, C, ws, rfl, hw, _⟩ := h
    rw [List.length_cons, hw]
    rfl
  · obtain ⟨a, C, ws, rfl, hw, T', hf, _, ha, k⟩ := h
    match ws, hw with
    | [], _ =>
      rw [hb]
      refine ⟨_, pss_one (ps_ost (pv 0 rfl hv) pe_str), ?_⟩
      refine ⟨_, rfl, a, C, rfl, T', hf, .inl ⟨ha, fun dx n ne => ?_⟩⟩
      exact k dx n ne
structure ExcAt (M : Mx) (c : Str) (ps : List Str) (mk : List V → List (Str × V)) where
  fI : Addr
  fd : FuncData
  g : M.mg c = some (.ref (M.ca c))
  oex : OexC M.K (M.ca c)
  iC : PySem.W.findIn M.K (.ref (M.ca c)) "__init__" = some (some (.ref fI))
  tI : PySem.W.typeIn M.K (.ref fI) = some (.type "function")
  tag : PySem.W.findIn M.K (.ref (M.ca c)) "tag" = some none
  fs : ∀ ws, ∀ f ∈ (mk ws).map (·.1), PySem.W.findIn M.K (.ref (M.ca c)) f = some none
  xf : XfC M.K (M.ca c)
  b : Binds M.K fd ps []
  ok : ∀ (P : Program) (w : World) (base : Heap), FnOk P w M.K M.mg base (L2.CX P w) 1 fI fd ps (spI M.K (ps.length - 1) mk)
end
theorem XcOk.mk' {K : PySem.W.Frag} {C : Addr} {ns : List Str} (h : XfC K C) (h2 : ∀ f ∈ ns, PySem.W.findIn K (.ref C) f = some none) : XcOk K C ns := ⟨h, h2⟩
abbrev twoMore (h : Heap) (C : Addr) : Heap := (h.push (PySem.W.kdv_tup [])).push (PySem.HandSPX.excO C h.objs.size)
theorem two_keep {h : Heap} {C : Addr} : ∀ b o, h.get? b = some o → (twoMore h C).get? b = some o := fun _ _ z => Heap.get?_push_of_some _ (Heap.get?_push_of_some _ z)
theorem two_at {h : Heap} {C : Addr} : (twoMore h C).get? (h.objs.size + 1) = some (PySem.HandSPX.excO C h.objs.size) := by heap_get
theorem pmk_oex0 {X : Cx} {CX : CXT} {x : Str} {C fI : Addr} {k : Nat} {fd : FuncData} {ps : List Str} {sp : Sp} {p pos : Pos} (oex : OexC X.K C) (iC : PySem.W.findIn X.K (.ref C) "__init__" = some (some (.ref fI))) (tI : PySem.W.typeIn X.K (.ref fI) = some (.type "function"))
    (ini : FnOk X.prog X.w X.K X.mg X.base CX k fI fd ps sp) (room : Room (k + 1) X.A) (hb : Binds X.K fd ps []) (hx : Passes CX X (fun _ _ _ => False)) (gl : Gl X x) (at_ : X.mg x = some (.ref C)) (ndb : (x == ("__debug__" : Str)) = false) :
    PMk X (.Call (.Name x p) [] [] pos) (tMkO C sp [] tNil) := by
  rintro pins ⟨h, gs, dr, tk, os⟩ σ H Q inv ⟨_, want⟩
  apply wpAny_Call_Name_kw
  refine ld_glob inv gl at_ (PySem.W.callWith_K0 inv.kIn oex.kC ?_) ndb
  rcases oex.cls with ⟨_, _, _, _, _, _, _, _, _, _, _, _, _, _, _, lk, ve⟩
  have fresh : h.objs.size ≤ h.objs.size + 1 := by omega
  have J : L2.Inv X pins σ (upd H (h.objs.size + 1) (exo (h.objs.size + 1) C none)) ⟨twoMore h C, gs, dr, tk, os⟩ := inv.laid (t' := tk) two_keep fresh (exo_ok two_at)
  have w := want (h.objs.size + 1) (inv.hok.fresh fresh)
  have one : [Value.ref (h.objs.size + 1)].length = ps.length := ini.len _ _ _ _ w
  have run := ini.run _ X.stack _ _ ⟨[.ref (h.objs.size + 1)], []⟩ [.ref (h.objs.size + 1)] _ _ (room.make C [] []) (J.env0.make C [] []) (hb _ [.ref (h.objs.size + 1)] J.kIn one) (vs := [.ref (h.objs.size + 1)]) (.cons rfl .nil) w
  refine wpAny_call (PySem.HandSPX.call_own F.excBase_ValueError (fun Y => PySem.HandSPX.refsVE_contains Y _ ve) (inv.kIn _ _ lk) (PySem.W.looks_findIn inv.kIn iC) (fun self => PySem.W.bind_fn inv.kIn self tI) (Nat.zero_le _) (codeAny_mono run ?_))
  intro r t out
  match r, t, out with
  | .error er, t, out => exact hx _ _ _ _ er t J out
  | .ok (.ret u), ⟨h2, g2, d2, t2, o2⟩, ⟨v, H2, os2, bare2, un2, hok2, rv, ev, d, fs, q1, q2, q3, q⟩ =>
    cases ev
    exact ⟨rv, mk_end (raises_own oex.exC oex.tyC) inv fresh two_keep un2 hok2 os2 bare2 q1 q2 q3 q⟩
theorem del_upd {H : Hp} {a dx : Addr} {o1 o2 o3 u : HO} (n : H a = none) (ne : dx ≠ a) : upd (del (upd (upd (upd H a o1) dx o2) a o3) a) dx u = upd H dx u := by
  funext b
  by_cases h1 : b = dx
  · subst h1
    rw [upd_same, upd_same]
  · rw [upd_ne h1, upd_ne h1]
    by_cases h2 : b = a
    · subst h2
      rw [del_same, n]
    · rw [del_ne h2, upd_ne h2, upd_ne h1, upd_ne h2]
section
variable {P : Program} {w : World} {base : Heap} {N : List Str} {sc : Scope} {j : Nat}
variable {M : Mx} {W : WX} {X : Cx} {F H F' H' F1 H1 F2 H2 H0 : Hp} {σ σ1 : L2.St} {ρ ρ1 ρ2 : SE}
variable {a b c e : Expr} {ma mb m : DM RV} {es : List Expr} {pos p p' : Pos} {x : Str}
def sRaise0 (c T : Str) : DM Fl := fun ρ => .ex ⟨c, [("tag", .str T)]⟩ ρ
theorem exc_new {vs : List (Str × V)} {fs : List (Str × D)} {c : Str} {dx : Addr} (sm : Sim M F H σ ρ) (n : H dx = none) (r : RepF M F vs fs) (xc : XcOk M.K (M.ca c) (fs.map (·.1))) : ∃ F', Alc F H F' (upd H dx (.xd vs)) ∧ ExcOk M F' (upd H dx (.xd vs)) (.ref (M.ca c)) (some dx) ⟨c, fs⟩ :=
  ⟨_, Alc.newF' sm.sub n, rfl, dx, vs, rfl, upd_same, r.up (same_upd (sm.sub.free n)), xc⟩
theorem ds_raise0 {T : Str} {k : Nat} (C : CxD P w base M N sc j X W) (Ex : ExcAt M x ["self"] fun _ => [("tag", .str T)]) (g : GlOk sc x) (hj : 2 ≤ j) : DS X M W (.Raise (some (.Call (.Name x p) [] [] pos)) none p') (sRaise0 x T) := by
  obtain ⟨fI, fd, eg, oex, iC, tI, tag, fs, xf, b, ok⟩ := Ex
  have xc := fun ws => XcOk.mk' xf (fs ws)
  have hK := C.hK
  have hM := C.hM
  have ok := ok X.prog X.w X.base
  rw [hK, hM] at ok
  rw [hK] at oex iC tI tag fs b
  rw [hM] at eg
  refine ⟨_, ps_raise C.cm C.tk (pmk_oex0 oex iC tI ok (C.hr.mono hj) b (fun pins σ H s e s' I ⟨_, _, _, _, _, _, _, _, _, _, _, _, z⟩ => z.elim) (C.glo g) eg g.nd), fun σ H F ρ E sm h => ?_⟩
  refine ⟨Nat.zero_le _, fun a na => ⟨a, M.ca x, [], rfl, rfl, oex, tag, fs [], upd_same, fun dx n ne => ⟨rfl, dx, [("tag", .str T)], upd_same, ?_, ?_, ?_⟩⟩⟩
  · rw [upd_ne ne, upd_same]
  · rw [upd_ne ne] at n
    exact n
  · rw [upd_ne ne] at n
    rw [del_upd na ne]
    obtain ⟨F', al, ex⟩ := exc_new (c := x) (vs := [("tag", V.str T)]) (fs := [("tag", D.str T)]) sm n (.cons (.str T) .nil) (xc [])
    exact h F' _ σ _ _ (al.stp _ _) (sm.alc al) ex
end
end DL

/- part -/
set_option Elab.async false
set_option linter.all false
set_option maxRecDepth 100000
namespace DL
open PySem PySem.Spec L2 PyProof.Rows
structure Landed (X : Cx) (pins : List (Addr × Obj)) (τ : L2.St) (G : Hp) (B : Heap) (a : Addr) (cls : Value) (d : Option Addr) (t : Shared) : Prop where
  inv : L2.Inv X pins τ G t
  fly : PySem.HandSPX.FlyingZ B (X.env :: X.outer) a (Zc cls d) t.heap
  out : a ∉ frs (X.env :: X.outer)
  new : G a = none
  low : X.base.get? a = none
section
variable {X : Cx} {pins : List (Addr × Obj)} {τ : L2.St} {G : Hp} {B : Heap} {a : Addr} {cls : Value} {d : Option Addr} {t : Shared}
theorem Landed.mk' (inv : L2.Inv X pins τ G t) (fly : PySem.HandSPX.FlyingZ B (X.env :: X.outer) a (Zc cls d) t.heap) (new : G a = none) (low : X.base.get? a = none) : Landed X pins τ G B a cls d t := by
  refine ⟨inv, fly, fun inF => ?_, new, low⟩
  obtain ⟨oe, vs, q1, _, q2⟩ := fly.there
  obtain ⟨_, ob, q3, nf⟩ := fly.2.2.1.mem inF
  exact nf vs (by rw [← Option.some.inj (q1.symm.trans q3)]; exact q2)
theorem Landed.ty (L : Landed X pins τ G B a cls d t) : PySem.W.Looks (model X.prog X.w) t.heap (typeOf (.ref a)) cls := by
  obtain ⟨oe, _, q1, z, _⟩ := L.fly.there
  intro A Q E s k q
  exact wpAny_typeOf_ref (k _ _ q1) (z.1 ▸ q)
end
section
variable {X : Cx} {x1 x2 x3 n : Str} {c1 c2 c3 : Value} {i : Nat} {body suite : List Stmt} {b₀ : Stmt} {p1 p2 p3 tp pos pos' : Pos} {kk : Nat} {tb : L2.WX → TS} {ts : Addr → Value → Option Addr → TS}
end
end DL

/- part -/
set_option Elab.async false
set_option linter.all false
set_option maxRecDepth 100000
set_option maxHeartbeats 1000000
namespace DL
open PySem PySem.Spec PyProof.Rows L2
section
variable {P : Program} {w : World} {base : Heap} {N : List Str} {sc : Scope} {j : Nat}
variable {M : Mx} {W : WX} {X : Cx} {F H F' H' F1 H1 F2 H2 H0 : Hp} {σ σ1 : L2.St} {ρ ρ1 ρ2 : SE}
variable {a b c e : Expr} {ma mb m : DM RV} {es : List Expr} {pos p p' : Pos} {x f : Str}
end
section
variable {X : Cx} {a : Addr} {oe : Obj} {pn : List (Addr × Obj)} {k i : Nat} {f : Addr} {fd : FuncData} {ps : List Str} {sp : Sp} {x n : Str} {p p1 pos : Pos}
end
end DL

/- part -/
set_option Elab.async false
set_option linter.all false
set_option maxRecDepth 100000
set_option maxHeartbeats 1000000
namespace DL
open PySem PySem.Spec PyProof.Rows L2
end DL

/- part -/
set_option Elab.async false
set_option linter.all false
set_option maxRecDepth 100000
set_option maxHeartbeats 1000000
namespace DL
open PySem PySem.Spec PyProof.Rows L2
section
variable {P : Program} {w : World} {base : Heap} {N : List Str} {sc : Scope} {j : Nat}
variable {M : Mx} {W : WX} {X : Cx} {F H F' H' F1 H1 F2 H2 H0 : Hp} {σ σ1 : L2.St} {ρ ρ1 ρ2 : SE}
end
end DL

/- part -/
set_option Elab.async false
set_option linter.all false
set_option maxRecDepth 100000
set_option maxHeartbeats 1000000
namespace DL
open PySem PySem.Spec PyProof.Rows L2
section
variable {P : Program} {w : World} {base : Heap} {N : List Str} {sc : Scope} {j : Nat}
variable {M : Mx} {W : WX} {X : Cx} {F H F' H' F1 H1 F2 H2 H0 : Hp} {σ σ1 : L2.St} {ρ ρ1 ρ2 : SE}
end
end DL

/- part -/
set_option Elab.async false
set_option linter.all false
set_option maxRecDepth 100000
set_option maxHeartbeats 1000000
namespace DL
open PySem PySem.Spec PyProof.Rows L2
section
variable {P : Program} {w : World} {base : Heap} {N : List Str} {sc : Scope} {j : Nat}
variable {M : Mx} {W : WX} {X : Cx} {F H F' H' F1 H1 F2 H2 H0 : Hp} {σ σ1 : L2.St} {ρ ρ1 ρ2 : SE}
end
end DL

/- part -/
set_option Elab.async false
set_option linter.all false
set_option maxRecDepth 100000
set_option maxHeartbeats 1000000
namespace DL
open PySem PySem.Spec PyProof.Rows L2
structure DefAtD (M : Mx) (x : Str) (st : Stmt) (ps : List Str) (dvs : List V) where
  f : Addr
  fd : FuncData
  g : M.mg x = some (.ref f)
  kp : PySem.W.keepIn M.K (.ref f) = true
  b : Binds M.K fd ps []
  bd : ∃ dus, Vals dvs dus ∧ Binds M.K fd ps dus
  fu : FunD M.K x x (defArgs st) (defBody st) (defScope st) dvs [] f fd
def DefAtD.cal {M : Mx} {P : Program} {w : World} {base : Heap} {j : Nat} {x : Str} {st : Stmt} {ps : List Str} {dvs : List V} {n : Nat} {mm : SE → R RV} (d : DefAtD M x st ps dvs) (ok : FnOk P w M.K M.mg base (L2.CX P w) j d.f d.fd ps (spD M n mm)) : Cal P w base M x j n mm := ⟨d.f, d.fd, ps, d.g, d.kp, d.b, ok⟩
theorem fn_DD {M : Mx} {P : Program} {w : World} {base : Heap} {x qual : Str} {st : Stmt} {f : Addr} {fd : FuncData} {N ps : List Str} {k : Nat} {mb : DM Fl} {dvs : List V} (Fu : FunD M.K x qual (defArgs st) (defBody st) (defScope st) dvs [] f fd) (S : FnScope N ps (defScope st))
    (hb : ∀ (cdv : Value) (A : Around) (outer : List Env) (s : Shared) (H : Hp) (E : XK), Room k (A.deeper (envOfC qual (defScope st) s.heap.objs.size f cdv)) →
      DSs (cxOf (L2.CX P w) P w M.K M.mg base N qual (defScope st) f cdv A outer s H E) M (fun cls d _ H' => E cls d H') (defBody st) mb) :
    FnOk P w M.K M.mg base (L2.CX P w) (k + 1) f fd ps (spD M ps.length (mFn N.length mb)) := by
  have hN : ps.length ≤ N.length := by
    have := congrArg List.length S.pre
    rw [List.length_take] at this
    omega
  exact Fu.ok S (fun vs H Q E h => by
    obtain ⟨F, svs, h1, _⟩ := h
    exact h1) fun cdv A outer s H vs Q E hr h => fn_body hN (hb cdv A outer s H E hr) h
end DL

/- part -/
set_option Elab.async false
set_option linter.all false
set_option maxRecDepth 100000
set_option maxHeartbeats 1000000
namespace DL
open PySem PySem.Spec PyProof.Rows L2
section
variable {M : Mx} {W : WX} {X : Cx} {e : Expr} {es : List Expr} {m : DM RV} {ms : List (DM RV)} {pos : Pos}
end
end DL

/- part -/
set_option Elab.async false
set_option linter.all false
set_option maxRecDepth 100000
set_option maxHeartbeats 1000000
namespace DL
open PySem PySem.Spec PyProof.Rows L2
def excAt {M : Mx} {c : Str} {ps : List Str} {mk : List V → List (Str × V)} (C : Addr) (hC : M.ca c = C) (fI : Addr) (fd : FuncData) (g : M.mg c = some (.ref C)) (oex : OexC M.K C) (iC : PySem.W.findIn M.K (.ref C) "__init__" = some (some (.ref fI))) (tI : PySem.W.typeIn M.K (.ref fI) = some (.type "function"))
    (tag : PySem.W.findIn M.K (.ref C) "tag" = some none) (fs : ∀ ws, ∀ f ∈ (mk ws).map (·.1), PySem.W.findIn M.K (.ref C) f = some none) (xf : XfC M.K C) (b : Binds M.K fd ps []) (ok : ∀ (P : Program) (w : World) (base : Heap), FnOk P w M.K M.mg base (L2.CX P w) 1 fI fd ps (spI M.K (ps.length - 1) mk)) : ExcAt M c ps mk := by
  subst hC
  exact ⟨fI, fd, g, oex, iC, tI, tag, fs, xf, b, ok⟩
end DL

/- part -/
set_option Elab.async false
set_option linter.all false
set_option maxRecDepth 100000
set_option maxHeartbeats 1000000
namespace DL
open PySem PySem.Spec PyProof.Rows L2
end DL

/- part -/
set_option Elab.async false
set_option linter.all false
set_option maxRecDepth 100000
namespace DL
open PySem PySem.Spec PyProof.Rows L2
variable {X : Cx}
theorem star_unp {pins : List (Addr × Obj)} {σ : L2.St} {H : Hp} {s : Shared} {l : Addr} {x : V} {xs : List V} {E : Value → Shared → Prop} {Q : List Value → Shared → Prop}
    (hc : X.calm = true) (I : Inv X pins σ H s) (hs : SqT X.K H l (x :: xs))
    (h : ∀ a0 p s1, H p = none → RelV x a0 → Inv X pins σ (upd H p (.lst xs)) s1 → Q [a0, .ref p] s1) :
    wpAny (model X.prog X.w) X.A (unpackItems (.ref l) 2 (some 1)) Q E s := by
  obtain ⟨its, rv, pl, hz⟩ := I.tuple hs
  have sz : its.length = xs.length + 1 := by rw [← rv.length]; rfl
  have fresh : l ≠ s.heap.objs.size := by
    obtain ⟨o, ho, _⟩ := pl
    exact Nat.ne_of_lt (Heap.lt_size ho)
  unfold unpackItems
  refine wpAny_bind ?_
  unfold notIterableAtAll
  refine wpAny_bind (wpAny_specialOf pl.typeIs slot_tuple_iter.lookup (wpAny_pure ?_))
  simp only [Bool.false_eq_true, if_false]
  refine wpAny_bind (wpAny_holding (iter_tuple pl ?_))
  refine wpAny_bind (wpAny_holding (draw_tuple fresh 1 0 _ _ ⟨_, Heap.get?_push_size _ rfl, rfl, rfl⟩ (pl.push _) (by rw [List.size_toArray]; omega) fun g1 i1 b1 => ?_))
  have old : ∀ b o, s.heap.get? b = some o → g1.get? b = some o := fun b o e => b1.extBut b o (Nat.ne_of_lt (Heap.lt_size e)) (Heap.get?_push_of_some _ e)
  rw [Nat.zero_add] at i1
  have i2 := i1
  obtain ⟨oi, hoi, _⟩ := i2
  have pl1 : IsTup g1 l its.toArray := (pl.push _).extBut b1.extBut fresh
  have pl2 := pl1
  obtain ⟨ol, hol, _⟩ := pl2
  cases rv with
  | @cons _ a0 _ rest r0 rr =>
  rw [List.drop_zero]
  refine wpAny_bind (wpAny_holding (PySem.W.kun_collect (s := { s with heap := g1 }) (T := "tuple_iterator") (.inr (.inr (.inr rfl))) (Walks.tuple (A := X.A.in1) (I.ok.hd hc) s.heap.objs.size l fresh _) (fun j u st => st.1.typeIs) (k := 1) (by simp) ⟨i1, pl1⟩ (Heap.lt_size hoi) (Heap.lt_size hol) (fun g2 tk keep => ?_) (by simpa [sz] using hz)))
  have old2 : ∀ b o, s.heap.get? b = some o → g2.get? b = some o := fun b o e => keep b o (Nat.ne_of_lt (Heap.lt_size e)) (old b o e)
  have I1 : Inv X pins σ H { s with heap := g2, toks := tk } := I.kept old2
  have len0 : (List.drop 1 (a0 :: rest).toArray.toList).length - (2 - 1 - 1) = rest.length := by simp
  show wpAny _ _ (newList (List.take _ _) >>= fun d => pure (_ ++ [d] ++ List.drop _ _)) _ _ _
  rw [len0]
  simp only [List.drop_succ_cons, List.drop_zero, List.take_length, List.drop_length, List.append_nil]
  refine wpAny_bind (wpAny_newList (wpAny_pure ?_) ?_)
  · have I2 := I1.laid (t' := tk) (o := .lst xs) (h' := g2.push { cls := .type "list", data := .seq rest.toArray }) (fun b u e => Heap.get?_push_of_some _ e) (Nat.le_refl _) ⟨by simp only [List.length_cons] at hz; omega, rest, 0, rr, Heap.get?_push_size _ rfl⟩
    exact h a0 _ _ (I1.hok.fresh (Nat.le_refl _)) r0 I2
  · have e := rr.length
    simp only [List.length_cons] at hz
    omega
def gStar (K : PySem.W.Frag) (t : TGs) : TG := fun v σ H Q => ∃ l x xs, v = .ref l ∧ SqT K H l (x :: xs) ∧ ∀ p, H p = none → t [x, .ref p] σ (upd H p (.lst xs)) Q
theorem pg_star {es : List Expr} {k : Nat} {pos : Pos} {t : TGs} (hc : X.calm = true) (h : PGs X es t)
    (hn : (assignEach es X.env).length = 2 := by rfl) (hst : (assignEach es X.env).findIdx? (·.1) = some 1 := by rfl) : PG X (.Tuple es k pos) (gStar X.K t) := by
  refine ⟨fun pins s σ H v u Q I r ⟨l, x, xs, e, sq, kk⟩ => ?_⟩
  subst e
  obtain rfl : u = Value.ref l := r
  rw [assign_Tuple]
  refine wpAny_bind (wpAny_standAt ?_)
  unfold unpack
  rw [hn, hst]
  exact wpAny_bind (wpAny_holding (star_unp hc I sq fun a0 p s1 hp r0 I1 => h.run pins s1 σ _ [x, .ref p] _ Q I1 (.cons r0 (.cons (show RelV (.ref p) (.ref p) from rfl) .nil)) (kk p hp)))
theorem pgs_star {tg : Expr} {q : Pos} {t : TG} (h : PG X tg t) : PGs X [.Starred tg q] (fun vs σ H Q => ∃ v, vs = [v] ∧ t v σ H Q) := by
  refine ⟨fun pins s σ H vs us Q I r ⟨v, e, kk⟩ => ?_⟩
  subst e
  cases r with
  | @cons _ u _ _ r0 rr =>
  cases rr
  show wpAny _ _ (assignInOrder [assign tg X.env] [u]) _ _ _
  exact assignInOrder_cons (thn (h.run pins s σ H v u _ I r0 kk) fun _ s1 ⟨σ1, H1, I1, q1⟩ => wpAny_pure ⟨σ1, H1, I1, q1⟩)
def sStar (i j : Nat) (m : DM RV) : DM Fl := fun ρ => (dFz m ρ).bind fun d ρ1 => match d with
  | .tup (d1 :: ds) => (stow ρ1 i (.im d1)).bind fun _ ρ2 => (stow ρ2 j (.im (.lst ds))).bind fun _ ρ3 => .ok .nx ρ3
  | _ => .bad
theorem ds_star {M : Mx} {W} {e : Expr} {m : DM RV} {i j : Nat} {x y : Str} {px py pz pt pos : Pos} {kt} (he : DE X M W e m) (hc : X.calm = true) (hK : M.K = X.K) (g1 : PG X (.Name x px) (gName i)) (g2 : PG X (.Name y py) (gName j))
    (hn : (assignEach [.Name x px, .Starred (.Name y py) pz] X.env).length = 2 := by rfl) (hst : (assignEach [.Name x px, .Starred (.Name y py) pz] X.env).findIdx? (·.1) = some 1 := by rfl)
    (hs : swapsWithSole [.Tuple [.Name x px, .Starred (.Name y py) pz] kt pt] e pos.line X.env = pure false := by rfl) (hw : swappedStores [.Tuple [.Name x px, .Starred (.Name y py) pz] kt pt] e X.env = pure none := by rfl)
    (h1 : (assignEach [.Tuple [.Name x px, .Starred (.Name y py) pz] kt pt] X.env).map (·.2) = [assign (.Tuple [.Name x px, .Starred (.Name y py) pz] kt pt) X.env] := by rfl) :
    DS X M W (.Assign [.Tuple [.Name x px, .Starred (.Name y py) pz] kt pt] e pos) (sStar i j m) := by
  obtain ⟨t, p, q⟩ := he
  refine ⟨_, ps_asg p (pg_star hc (pgs_cons g1 (pgs_star g2)) hn hst) hs hw h1, fun σ H F ρ E sm h => ?_⟩
  refine q σ H F ρ _ sm (PostD.go (PostD.step (P := fun r => PostS M W σ ρ F H r E) (fun z => z) (fun e ρ' z F' H' cls d st sm ok => z F' H' σ cls d st sm ok) h fun d ρ1 F1 H1 v st1 sm1 r1 h2 => ?_))
  cases r1 with
  | @tup a vs ds0 sq rs =>
    cases rs with
    | nil => exact h2.elim
    | @cons x1 xs d1 ds rx rxs =>
    have h2 : PostS M W σ ρ F H ((stow ρ1 i (.im d1)).bind fun _ ρ2 => (stow ρ2 j (.im (.lst ds))).bind fun _ ρ3 => .ok .nx ρ3) E := h2
    cases e2 : stow ρ1 i (.im d1) with
    | bad =>
      rw [e2] at h2
      exact h2.elim
    | ex z ρ2 => exact (stow_ex e2).elim
    | ok u ρ2 =>
    rw [e2] at h2
    have h2 : PostS M W σ ρ F H ((stow ρ2 j (.im (.lst ds))).bind fun _ ρ3 => .ok .nx ρ3) E := h2
    cases e3 : stow ρ2 j (.im (.lst ds)) with
    | bad =>
      rw [e3] at h2
      exact h2.elim
    | ex z ρ2 => exact (stow_ex e3).elim
    | ok u ρ3 =>
    rw [e3] at h2
    refine ⟨a, x1, xs, rfl, by rw [← hK]; exact sm1.sub.sqT sq, fun p hp => ?_⟩
    have al : Alc F1 H1 (upd F1 p (.lst xs)) (upd H1 p (.lst xs)) := Alc.newF' sm1.sub hp
    have sm2 := sm1.alc al
    have st2 := st1.trans (al.stp σ ρ1)
    obtain ⟨st3, sm3⟩ := stow_ok (sv := .im d1) st2 (Rep.mono al.same _ _ rx) sm2 e2
    have rl : Rep M (upd F1 p (.lst xs)) (.ref p) (.lst ds) := .lst (by simp [upd]) (Reps.mono al.same _ _ rxs)
    obtain ⟨st4, sm4⟩ := stow_ok (sv := .im (.lst ds)) st3 rl sm3 e3
    exact ⟨x1, _, rfl, .ref p, rfl, h2 _ _ _ st4 sm4⟩
  | _ => exact h2.elim
theorem ds_starv {P : Program} {w : World} {base : Heap} {M : Mx} {N : List Str} {sc : Scope} {k0 : Nat} {X : Cx} {W} (C : CxD P w base M N sc k0 X W) {e : Expr} {m : DM RV} (i j : Nat) {x y : Str} {px py pz pt pos : Pos} {kt} (hx : StOk X x) (hy : StOk X y) (he : DE X M W e m)
    (hi : N[i]? = some x := by rfl) (hj : N[j]? = some y := by rfl)
    (hn : (assignEach [.Name x px, .Starred (.Name y py) pz] X.env).length = 2 := by rfl) (hst : (assignEach [.Name x px, .Starred (.Name y py) pz] X.env).findIdx? (·.1) = some 1 := by rfl)
    (hs : swapsWithSole [.Tuple [.Name x px, .Starred (.Name y py) pz] kt pt] e pos.line X.env = pure false := by rfl) (hw : swappedStores [.Tuple [.Name x px, .Starred (.Name y py) pz] kt pt] e X.env = pure none := by rfl) :
    DS X M W (.Assign [.Tuple [.Name x px, .Starred (.Name y py) pz] kt pt] e pos) (sStar i j m) :=
  ds_star he C.cm C.hK (pg_name C.nd' (C.ix hi) hx.loc hx.fn) (pg_name C.nd' (C.ix hj) hy.loc hy.fn) hn hst hs hw
end DL

/- part -/
set_option Elab.async false
set_option linter.all false
set_option maxRecDepth 100000
set_option maxHeartbeats 1000000
namespace DL
open PySem PySem.Spec PyProof.Rows L2
def putD (f : Str) (d : D) : List (Str × D) → List (Str × D)
  | [] => [(f, d)]
  | (g, x) :: r => if g = f then (g, d) :: r else (g, x) :: putD f d r
section
variable {M : Mx} {F H : Hp}
theorem putD_keys {f g : Str} {d : D} : ∀ {fs : List (Str × D)}, g ∈ (putD f d fs).map (·.1) → g = f ∨ g ∈ fs.map (·.1)
  | [], h => by
    have h : g ∈ [f] := h
    exact .inl (List.mem_singleton.mp h)
  | (k, x) :: r, h => by
    unfold putD at h
    by_cases e : k = f
    · rw [if_pos e] at h
      exact .inr h
    · rw [if_neg e] at h
      rcases List.mem_cons.mp h with h | h
      · exact .inr (List.mem_cons.mpr (.inl h))
      · rcases putD_keys h with h | h
        · exact .inl h
        · exact .inr (List.mem_cons_of_mem _ h)
theorem ObOk.put {K : PySem.W.Frag} {C : Addr} {f : Str} {d : D} {fs : List (Str × D)} (h : ObOk K C (fs.map (·.1))) (n : NoAttr K C f) : ObOk K C ((putD f d fs).map (·.1)) := ⟨h.1, fun g hg => by
  rcases putD_keys hg with e | e
  · rw [e]
    exact n
  · exact h.2 g e⟩
end
theorem lookup_putF {f g : Str} {v : V} (h : f ≠ g) : ∀ vs : List (Str × V), (putF f v vs).lookup g = vs.lookup g
  | [] => by
    show List.lookup g [(f, v)] = none
    rw [List.lookup_cons, show (g == f) = false from beq_eq_false_iff_ne.mpr (Ne.symm h)]
    rfl
  | (k, x) :: r => by
    unfold putF
    by_cases e : k = f
    · rw [if_pos e, List.lookup_cons, List.lookup_cons, show (g == k) = false from beq_eq_false_iff_ne.mpr fun z => h (by rw [← e, z])]
    · rw [if_neg e, List.lookup_cons, List.lookup_cons, lookup_putF h r]
theorem NdF.put {F : Hp} {c f : Str} {v : V} {vs : List (Str × V)} (h : NdF F c vs) (hnd : c = "DigitSet" → f ≠ "digits") : NdF F c (putF f v vs) := fun z v q => by
  rw [lookup_putF (hnd z)] at q
  exact h z v q
structure MCal (P : Program) (w : World) (base : Heap) (M : Mx) (c m : Str) (k n : Nat) (mm : SE → R RV) where
  f : Addr
  fd : FuncData
  ps : List Str
  cl : Cls M.K (M.ca c)
  me : Meth M.K (M.ca c) m f
  b : Binds M.K fd ps []
  ok : FnOk P w M.K M.mg base (L2.CX P w) k f fd ps (spD M n mm)
structure ICal (P : Program) (w : World) (base : Heap) (M : Mx) (c : Str) (k n : Nat) (mm : SE → R RV) where
  f : Addr
  fd : FuncData
  ps : List Str
  g : M.mg c = some (.ref (M.ca c))
  cl : Cls M.K (M.ca c)
  mkr : Mk M.K (M.ca c) f
  b : Binds M.K fd ps []
  ok : FnOk P w M.K M.mg base (L2.CX P w) k f fd ps (spD M n mm)
section
variable {P : Program} {w : World} {base : Heap} {N : List Str} {sc : Scope} {j : Nat}
variable {M : Mx} {W : WX} {X : Cx} {F H F' H' F1 H1 F2 H2 H0 : Hp} {σ σ1 : L2.St} {ρ ρ1 ρ2 : SE}
variable {a b c e o : Expr} {ma mb m mo : DM RV} {es : List Expr} {ms : DM (List AV)} {pos p p' apos : Pos} {x f mn : Str}
end
end DL

/- part -/
set_option Elab.async false
set_option linter.all false
set_option maxRecDepth 100000
set_option maxHeartbeats 1000000
namespace DL
open PySem PySem.Spec PyProof.Rows L2
section
variable {M : Mx} {F H : Hp}
end
section
variable {P : Program} {w : World} {base : Heap} {N : List Str} {sc : Scope} {j : Nat}
variable {M : Mx} {W : WX} {X : Cx} {F H F' H' F1 H1 F2 H2 H0 : Hp} {σ σ1 : L2.St} {ρ ρ1 ρ2 : SE}
variable {a b c e o : Expr} {ma mb m m1 m2 mo : DM RV} {es : List Expr} {ms : DM (List AV)} {pos p p' apos : Pos} {x f mn : Str}
end
end DL

/- part -/
set_option Elab.async false
set_option linter.all false
set_option maxRecDepth 100000
set_option maxHeartbeats 1000000
namespace DL
open PySem PySem.Spec PyProof.Rows L2
section
variable {prog : Program} {w : World} {A : Around} {E : Value → Shared → Prop} {s : Shared}
end
section
variable {X : Cx}
end
section
variable {M : Mx} {W : WX} {X : Cx} {F H F' H' F1 H1 H0 : Hp} {σ : L2.St} {ρ ρ1 : SE}
variable {P : Program} {w : World} {base : Heap} {N : List Str} {sc : Scope} {j : Nat}
variable {a b c e : Expr} {ma mb mc m : DM RV} {es : List Expr} {pos p p2 q : Pos} {mv : DM (List D)}
end
end DL

/- part -/
set_option Elab.async false
set_option linter.all false
set_option maxRecDepth 100000
set_option maxHeartbeats 1000000
namespace DL
open PySem PySem.Spec PyProof.Rows L2
section
variable {M : Mx} {W : WX} {X : Cx} {F H F' H' F1 H1 H0 : Hp} {σ : L2.St} {ρ ρ1 : SE}
variable {P : Program} {w : World} {base : Heap} {N : List Str} {sc : Scope} {j : Nat}
variable {a b c e : Expr} {ma mb mc m : DM RV} {es : List Expr} {pos p p2 q : Pos} {mv : DM (List D)}
end
end DL

/- part -/
set_option Elab.async false
set_option linter.all false
set_option maxRecDepth 100000
set_option maxHeartbeats 1000000
namespace DL
open PySem PySem.Spec PyProof.Rows L2
structure MDefAt (M : Mx) (c m q : Str) (st : Stmt) (ps : List Str) where
  f : Addr
  fd : FuncData
  cl : Cls M.K (M.ca c)
  me : Meth M.K (M.ca c) m f
  b : Binds M.K fd ps []
  fu : Fun M.K m q st f fd
structure IDefAt (M : Mx) (c q : Str) (st : Stmt) (ps : List Str) where
  f : Addr
  fd : FuncData
  g : M.mg c = some (.ref (M.ca c))
  cl : Cls M.K (M.ca c)
  mkr : Mk M.K (M.ca c) f
  b : Binds M.K fd ps []
  fu : Fun M.K "__init__" q st f fd
section
variable {P : Program} {w : World} {base : Heap} {N : List Str} {sc : Scope} {j : Nat}
variable {M : Mx} {W : WX} {X : Cx} {F H F' H' F1 H1 F2 H2 H0 : Hp} {σ σ1 : L2.St} {ρ ρ1 ρ2 : SE}
variable {a b c e o : Expr} {ma mb m mo : DM RV} {es : List Expr} {ms : DM (List AV)} {pos p p' apos : Pos} {x f : Str}
def MDefAt.cal {k n : Nat} {c m q : Str} {st : Stmt} {ps : List Str} {mm : SE → R RV} (d : MDefAt M c m q st ps) (ok : FnOk P w M.K M.mg base (L2.CX P w) k d.f d.fd ps (spD M n mm)) : MCal P w base M c m k n mm := ⟨d.f, d.fd, ps, d.cl, d.me, d.b, ok⟩
def IDefAt.cal {k n : Nat} {c q : Str} {st : Stmt} {ps : List Str} {mm : SE → R RV} (d : IDefAt M c q st ps) (ok : FnOk P w M.K M.mg base (L2.CX P w) k d.f d.fd ps (spD M n mm)) : ICal P w base M c k n mm := ⟨d.f, d.fd, ps, d.g, d.cl, d.mkr, d.b, ok⟩
end
end DL

/- part -/
set_option Elab.async false
set_option linter.all false
set_option maxRecDepth 100000
set_option maxHeartbeats 1000000
namespace DL
open PySem PySem.Spec PyProof.Rows L2
class Cont (α : Type) where
  go : α → SE → Prop
  stop : Exc → SE → Prop
def WpD {α : Type} (r : R α) (c : Cont α) : Prop := match r with
  | .bad => False
  | .ok a ρ => c.go a ρ
  | .ex e ρ => c.stop e ρ
structure Wp {α : Type} (r : R α) [c : Cont α] : Prop where
  h : WpD r c
abbrev WP {α : Type} (r : R α) (Q : α → SE → Prop) (E : Exc → SE → Prop) : Prop := @Wp α r ⟨Q, E⟩
abbrev noX : Exc → SE → Prop := fun _ _ => False
theorem wp_D {α : Type} {r : R α} {c : Cont α} : @Wp α r c = WpD r c := propext ⟨fun h => h.h, fun h => ⟨h⟩⟩
theorem wpI {α : Type} {r : R α} {c : Cont α} (h : WpD r c) : @Wp α r c := Eq.mpr wp_D h
theorem wpE {α : Type} {r : R α} {c : Cont α} (h : @Wp α r c) : WpD r c := Eq.mp wp_D h
section
variable {α β : Type} {a : α} {r : R α} {ρ ρ1 ρ2 : SE} {Q Q' : α → SE → Prop} {E E' : Exc → SE → Prop} {e : Exc}
@[simp ↓] theorem wp_open : WP r Q E = @Wp α r ⟨Q, E⟩ := rfl
@[simp ↓, simp] theorem wp_ok : WP (.ok a ρ) Q E = Q a ρ := wp_D
@[simp ↓, simp] theorem wp_ex : WP (.ex e ρ : R α) Q E = E e ρ := wp_D
@[simp ↓, simp] theorem wp_bad : WP (.bad : R α) Q E = False := wp_D
@[simp ↓, simp] theorem wp_bind {f : α → SE → R β} {Q : β → SE → Prop} : WP (r.bind f) Q E = WP r (fun a ρ => WP (f a ρ) Q E) E := by
  cases r with
  | bad => exact wp_bad.trans wp_bad.symm
  | ok a ρ => exact (wp_ok (Q := fun a ρ => WP (f a ρ) Q E) (E := E) (a := a) (ρ := ρ)).symm
  | ex e ρ => exact wp_ex.trans (wp_ex (Q := fun a ρ => WP (f a ρ) Q E)).symm
theorem Wp.mono (h : WP r Q E) (h1 : ∀ a ρ, Q a ρ → Q' a ρ) (h2 : ∀ e ρ, E e ρ → E' e ρ := by intro _ _ z; exact z) : WP r Q' E' := by
  cases r with
  | bad => exact (wp_bad ▸ h : False).elim
  | ok a ρ =>
    rw [wp_ok] at h ⊢
    exact h1 a ρ h
  | ex e ρ =>
    rw [wp_ex] at h ⊢
    exact h2 e ρ h
theorem Wp.of (h : r = .ok a ρ) (q : Q a ρ) : WP r Q E := by
  rw [h, wp_ok]
  exact q
theorem Wp.eq {x : α} {ρ' : SE} (h : WP r (fun a ρ => a = x ∧ ρ = ρ') noX) : r = .ok x ρ' := by
  cases r with
  | bad => exact False.elim (wpE h)
  | ok a ρ =>
    have h : a = x ∧ ρ = ρ' := wpE h
    obtain ⟨h1, h2⟩ := h
    rw [h1, h2]
  | ex e ρ => exact False.elim (wpE h)
theorem Wp.some (h : WP r Q noX) : ∃ a ρ, r = .ok a ρ ∧ Q a ρ := by
  cases r with
  | bad => exact False.elim (wpE h)
  | ok a ρ => exact ⟨a, ρ, rfl, wpE h⟩
  | ex e ρ => exact False.elim (wpE h)
end
def retR (r : R RV) (ρ : SE) : R RV := match r with
  | .bad => .bad
  | .ok r _ => if notBo r = true then .ok r ρ else .bad
  | .ex e _ => .ex e ρ
def retIo (r : R RV) (j i : Nat) (ρ : SE) : R RV := match r with
  | .bad => .bad
  | .ok r svs => if notBo r = true then (match backIo ρ j i svs with
    | some ρ2 => .ok r ρ2
    | none => .bad) else .bad
  | .ex e svs => (match backIo ρ j i svs with
    | some ρ2 => .ex e ρ2
    | none => .bad)
section
variable {m : SE → R RV} {as : List AV} {ρ ρ1 : SE} {r : R RV} {Q : RV → SE → Prop} {E : Exc → SE → Prop} {d e f g : D} {i j : Nat}
theorem callR_no (h : iosOf 0 as = []) : callR m as ρ = retR (m (as.map (argSV ρ))) ρ := by
  unfold callR
  rw [h]
  rfl
theorem callR_io (h : iosOf 0 as = [(j, i)]) : callR m as ρ = retIo (m (as.map (argSV ρ))) j i ρ := by
  unfold callR
  rw [h]
  rfl
@[simp] theorem argSV_io {io : Bool} {oc : OC} (h : ρ[i]? = some (.ow io oc)) : argSV ρ (.io i) = .ow true oc := by
  show (match ρ[i]? with
    | some (.ow _ ds) => SV.ow true ds
    | _ => .no) = _
  rw [h]
def ioSV : Option SV → SV
  | some (.ow _ ds) => .ow true ds
  | _ => .no
@[simp] theorem ioSV_ow {io : Bool} {oc : OC} : ioSV (some (.ow io oc)) = .ow true oc := rfl
theorem argSV_eq : argSV ρ (.io i) = ioSV ρ[i]? := by
  show (match ρ[i]? with
    | some (.ow _ ds) => SV.ow true ds
    | _ => .no) = _
  cases ρ[i]? with
  | none => rfl
  | some x => cases x <;> rfl
@[simp] theorem callR_0 : callR m [] ρ = retR (m []) ρ := callR_no rfl
@[simp] theorem callR_1 : callR m [.d d] ρ = retR (m [.im d]) ρ := callR_no rfl
@[simp] theorem callR_2 : callR m [.d d, .d e] ρ = retR (m [.im d, .im e]) ρ := callR_no rfl
@[simp] theorem callR_3 : callR m [.d d, .d e, .d f] ρ = retR (m [.im d, .im e, .im f]) ρ := callR_no rfl
@[simp] theorem callR_4 : callR m [.d d, .d e, .d f, .d g] ρ = retR (m [.im d, .im e, .im f, .im g]) ρ := callR_no rfl
@[simp] theorem callR_io1 : callR m [.io i] ρ = retIo (m [ioSV ρ[i]?]) 0 i ρ := by
  rw [← argSV_eq]
  exact callR_io rfl
@[simp] theorem callR_io2 : callR m [.io i, .d d] ρ = retIo (m [ioSV ρ[i]?, .im d]) 0 i ρ := by
  rw [← argSV_eq]
  exact callR_io rfl
@[simp] theorem callR_io3 : callR m [.io i, .d d, .d e] ρ = retIo (m [ioSV ρ[i]?, .im d, .im e]) 0 i ρ := by
  rw [← argSV_eq]
  exact callR_io rfl
@[simp] theorem callR_io4 : callR m [.io i, .d d, .d e, .d f] ρ = retIo (m [ioSV ρ[i]?, .im d, .im e, .im f]) 0 i ρ := by
  rw [← argSV_eq]
  exact callR_io rfl
theorem retR_okA {x : RV} : retR (.ok x ρ1) ρ = if notBo x = true then .ok x ρ else .bad := rfl
@[simp ↓, simp] theorem wp_retR : WP (retR r ρ) Q E = WP r (fun x _ => notBo x = true ∧ Q x ρ) (fun e _ => E e ρ) := by
  cases r with
  | bad => exact wp_bad.trans wp_bad.symm
  | ex e ρ1 => exact wp_ex.trans (wp_ex (Q := fun x _ => notBo x = true ∧ Q x ρ) (E := fun e _ => E e ρ)).symm
  | ok x ρ1 =>
    rw [retR_okA, wp_ok]
    cases h : notBo x with
    | true => simp
    | false => simp
@[simp ↓, simp] theorem wp_retIo : WP (retIo r j i ρ) Q E = WP r (fun x svs => notBo x = true ∧ ∃ ρ2, backIo ρ j i svs = some ρ2 ∧ Q x ρ2) (fun e svs => ∃ ρ2, backIo ρ j i svs = some ρ2 ∧ E e ρ2) := by
  cases r with
  | bad => exact wp_bad.trans wp_bad.symm
  | ex e ρ1 =>
    rw [wp_ex]
    show WP (match backIo ρ j i ρ1 with
      | some ρ2 => (.ex e ρ2 : R RV)
      | none => .bad) Q E = ∃ ρ2, backIo ρ j i ρ1 = some ρ2 ∧ E e ρ2
    cases backIo ρ j i ρ1 <;> simp
  | ok x ρ1 =>
    rw [wp_ok]
    show WP (if notBo x = true then (match backIo ρ j i ρ1 with
      | some ρ2 => (.ok x ρ2 : R RV)
      | none => .bad) else .bad) Q E = (notBo x = true ∧ ∃ ρ2, backIo ρ j i ρ1 = some ρ2 ∧ Q x ρ2)
    cases notBo x with
    | false => simp
    | true => cases backIo ρ j i ρ1 <;> simp
def bk2 (ρ : SE) (i : Nat) : Option SV → Option SV → Option SE
  | some (.ow true ds), some (.ow io _) => some (ρ.set i (.ow io ds))
  | _, _ => none
@[simp] theorem backIo_bk {svs : SE} : backIo ρ j i svs = bk2 ρ i svs[j]? ρ[i]? := rfl
@[simp] theorem bk2_ow {oc oc2 : OC} {io : Bool} : bk2 ρ i (some (.ow true oc)) (some (.ow io oc2)) = some (ρ.set i (.ow io oc)) := rfl
theorem wp_fn {nN : Nat} {mb : DM Fl} {svs : SE} (h : WP (mb (svs ++ List.replicate (nN - svs.length) .no)) (fun f ρ => WP (mRet svs f ρ) Q E) (fun e ρ => E e (outs svs ρ))) : WP (mFn nN mb svs) Q E := by
  unfold mFn
  cases e : mb (svs ++ List.replicate (nN - svs.length) .no) with
  | bad =>
    rw [e] at h
    exact False.elim (wpE h)
  | ok f ρ =>
    rw [e, wp_ok] at h
    exact h
  | ex x ρ =>
    rw [e] at h
    have h : E x (outs svs ρ) := wpE h
    exact wpI h
def loopQ (Q : Fl → SE → Prop) (I : SE → Prop) : Fl → SE → Prop
  | .nx, ρ => I ρ
  | .ct, ρ => I ρ
  | .bk, ρ => Q .nx ρ
  | .rt r, ρ => Q (.rt r) ρ
@[simp] theorem loopQ_nx {Q : Fl → SE → Prop} {I : SE → Prop} : loopQ Q I .nx ρ = I ρ := rfl
@[simp] theorem loopQ_ct {Q : Fl → SE → Prop} {I : SE → Prop} : loopQ Q I .ct ρ = I ρ := rfl
@[simp] theorem loopQ_bk {Q : Fl → SE → Prop} {I : SE → Prop} : loopQ Q I .bk ρ = Q .nx ρ := rfl
@[simp] theorem loopQ_rt {Q : Fl → SE → Prop} {I : SE → Prop} {r : RV} : loopQ Q I (.rt r) ρ = Q (.rt r) ρ := rfl
theorem wp_floop {gm : D → SE → R Unit} {b : DM Fl} {Q : Fl → SE → Prop} {ds : List D} (I : Nat → SE → Prop) (h0 : I 0 ρ) (hs : ∀ i d ρ, ds[i]? = some d → I i ρ → WP (gm d ρ) (fun _ ρ1 => WP (b ρ1) (loopQ Q (I (i + 1))) E) E) (hd : ∀ ρ, I ds.length ρ → Q .nx ρ) : WP (floop gm b ds ρ) Q E := by
  have main : ∀ (n : Nat) (ρ : SE), n ≤ ds.length → I n ρ → WP (floop gm b (ds.drop n) ρ) Q E := by
    intro n
    induction hk : ds.length - n generalizing n with
    | zero =>
      intro ρ hn h
      have e : n = ds.length := by omega
      subst e
      rw [List.drop_length]
      exact wpI (hd ρ h)
    | succ k ih =>
      intro ρ hn h
      have lt : n < ds.length := by omega
      rw [List.drop_eq_getElem_cons lt]
      have s1 := hs n ds[n] ρ (List.getElem?_eq_getElem lt) h
      unfold floop
      rw [wp_bind]
      refine s1.mono fun _ ρ1 s2 => ?_
      rw [wp_bind]
      refine s2.mono fun f ρ2 s3 => ?_
      cases f with
      | nx => exact ih (n + 1) (by omega) ρ2 (by omega) s3
      | ct => exact ih (n + 1) (by omega) ρ2 (by omega) s3
      | bk => exact wpI s3
      | rt x => exact wpI s3
  have := main 0 ρ (Nat.zero_le _) h0
  rwa [List.drop_zero] at this
theorem wp_cloop {vs : List Nat} {gm : D → SE → R Unit} {mt : DM Bool} {me : DM RV} {Q : List D → SE → Prop} {ds : List D} (I : Nat → List D → SE → Prop) (hz : ds.length ≤ 1000000) (h0 : I 0 [] ρ) (hw : ∀ i acc ρ, I i acc ρ → noOw ρ vs = true ∧ acc.length ≤ i)
    (hs : ∀ i d acc ρ, ds[i]? = some d → I i acc ρ → WP (cTurn vs gm mt me d ρ) (fun o ρ1 => I (i + 1) (addO acc o) ρ1) E) (hd : ∀ acc ρ, I ds.length acc ρ → Q acc ρ) : WP (cLoop vs gm mt me ds [] ρ) Q E := by
  have main : ∀ (n : Nat) (acc : List D) (ρ : SE), n ≤ ds.length → I n acc ρ → WP (cLoop vs gm mt me (ds.drop n) acc ρ) Q E := by
    intro n
    induction hk : ds.length - n generalizing n with
    | zero =>
      intro acc ρ hn h
      have e : n = ds.length := by omega
      subst e
      rw [List.drop_length]
      exact wpI (hd acc ρ h)
    | succ k ih =>
      intro acc ρ hn h
      have lt : n < ds.length := by omega
      rw [List.drop_eq_getElem_cons lt]
      obtain ⟨w1, w2⟩ := hw n acc ρ h
      have s1 := hs n ds[n] acc ρ (List.getElem?_eq_getElem lt) h
      unfold cLoop
      rw [if_pos (by rw [w1]; simp; omega), wp_bind]
      exact s1.mono fun o ρ1 s2 => ih (n + 1) (by omega) _ ρ1 (by omega) s2
  have := main 0 [] ρ (Nat.zero_le _) h0
  rwa [List.drop_zero] at this
end
def Nio (sv : SV) : Prop := ∀ oc, sv ≠ .ow true oc
@[simp] theorem nio_no : Nio .no := fun _ z => by cases z
@[simp] theorem nio_im {d : D} : Nio (.im d) := fun _ z => by cases z
@[simp] theorem nio_ow {oc : OC} : Nio (.ow false oc) := fun _ z => by cases z
theorem stow_at {ρ : SE} {i : Nat} {x sv : SV} (e : ρ[i]? = some x) (h : Nio x) : stow ρ i sv = .ok () (ρ.set i sv) := by
  unfold stow
  rw [e]
  cases x with
  | no => rfl
  | im d => rfl
  | ow io oc =>
    cases io with
    | true => exact (h oc rfl).elim
    | false => rfl
section
variable {x0 x1 x2 x3 x4 x5 x6 x7 x8 x9 x10 x11 x12 x13 x14 x15 x16 x17 x18 x19 x20 sv : SV} {l : SE}
@[simp] theorem stow_0 (h : Nio x0) : stow (x0 :: l) 0 sv = .ok () (sv :: l) := stow_at rfl h
@[simp] theorem stow_1 (h : Nio x1) : stow (x0 :: x1 :: l) 1 sv = .ok () (x0 :: sv :: l) := stow_at rfl h
@[simp] theorem stow_2 (h : Nio x2) : stow (x0 :: x1 :: x2 :: l) 2 sv = .ok () (x0 :: x1 :: sv :: l) := stow_at rfl h
@[simp] theorem stow_3 (h : Nio x3) : stow (x0 :: x1 :: x2 :: x3 :: l) 3 sv = .ok () (x0 :: x1 :: x2 :: sv :: l) := stow_at rfl h
@[simp] theorem stow_4 (h : Nio x4) : stow (x0 :: x1 :: x2 :: x3 :: x4 :: l) 4 sv = .ok () (x0 :: x1 :: x2 :: x3 :: sv :: l) := stow_at rfl h
@[simp] theorem stow_5 (h : Nio x5) : stow (x0 :: x1 :: x2 :: x3 :: x4 :: x5 :: l) 5 sv = .ok () (x0 :: x1 :: x2 :: x3 :: x4 :: sv :: l) := stow_at rfl h
@[simp] theorem stow_6 (h : Nio x6) : stow (x0 :: x1 :: x2 :: x3 :: x4 :: x5 :: x6 :: l) 6 sv = .ok () (x0 :: x1 :: x2 :: x3 :: x4 :: x5 :: sv :: l) := stow_at rfl h
@[simp] theorem stow_7 (h : Nio x7) : stow (x0 :: x1 :: x2 :: x3 :: x4 :: x5 :: x6 :: x7 :: l) 7 sv = .ok () (x0 :: x1 :: x2 :: x3 :: x4 :: x5 :: x6 :: sv :: l) := stow_at rfl h
@[simp] theorem stow_8 (h : Nio x8) : stow (x0 :: x1 :: x2 :: x3 :: x4 :: x5 :: x6 :: x7 :: x8 :: l) 8 sv = .ok () (x0 :: x1 :: x2 :: x3 :: x4 :: x5 :: x6 :: x7 :: sv :: l) := stow_at rfl h
@[simp] theorem stow_9 (h : Nio x9) : stow (x0 :: x1 :: x2 :: x3 :: x4 :: x5 :: x6 :: x7 :: x8 :: x9 :: l) 9 sv = .ok () (x0 :: x1 :: x2 :: x3 :: x4 :: x5 :: x6 :: x7 :: x8 :: sv :: l) := stow_at rfl h
@[simp] theorem stow_10 (h : Nio x10) : stow (x0 :: x1 :: x2 :: x3 :: x4 :: x5 :: x6 :: x7 :: x8 :: x9 :: x10 :: l) 10 sv = .ok () (x0 :: x1 :: x2 :: x3 :: x4 :: x5 :: x6 :: x7 :: x8 :: x9 :: sv :: l) := stow_at rfl h
@[simp] theorem stow_11 (h : Nio x11) : stow (x0 :: x1 :: x2 :: x3 :: x4 :: x5 :: x6 :: x7 :: x8 :: x9 :: x10 :: x11 :: l) 11 sv = .ok () (x0 :: x1 :: x2 :: x3 :: x4 :: x5 :: x6 :: x7 :: x8 :: x9 :: x10 :: sv :: l) := stow_at rfl h
@[simp] theorem stow_12 (h : Nio x12) : stow (x0 :: x1 :: x2 :: x3 :: x4 :: x5 :: x6 :: x7 :: x8 :: x9 :: x10 :: x11 :: x12 :: l) 12 sv = .ok () (x0 :: x1 :: x2 :: x3 :: x4 :: x5 :: x6 :: x7 :: x8 :: x9 :: x10 :: x11 :: sv :: l) := stow_at rfl h
@[simp] theorem stow_13 (h : Nio x13) : stow (x0 :: x1 :: x2 :: x3 :: x4 :: x5 :: x6 :: x7 :: x8 :: x9 :: x10 :: x11 :: x12 :: x13 :: l) 13 sv = .ok () (x0 :: x1 :: x2 :: x3 :: x4 :: x5 :: x6 :: x7 :: x8 :: x9 :: x10 :: x11 :: x12 :: sv :: l) := stow_at rfl h
@[simp] theorem stow_14 (h : Nio x14) : stow (x0 :: x1 :: x2 :: x3 :: x4 :: x5 :: x6 :: x7 :: x8 :: x9 :: x10 :: x11 :: x12 :: x13 :: x14 :: l) 14 sv = .ok () (x0 :: x1 :: x2 :: x3 :: x4 :: x5 :: x6 :: x7 :: x8 :: x9 :: x10 :: x11 :: x12 :: x13 :: sv :: l) := stow_at rfl h
@[simp] theorem stow_15 (h : Nio x15) : stow (x0 :: x1 :: x2 :: x3 :: x4 :: x5 :: x6 :: x7 :: x8 :: x9 :: x10 :: x11 :: x12 :: x13 :: x14 :: x15 :: l) 15 sv = .ok () (x0 :: x1 :: x2 :: x3 :: x4 :: x5 :: x6 :: x7 :: x8 :: x9 :: x10 :: x11 :: x12 :: x13 :: x14 :: sv :: l) := stow_at rfl h
@[simp] theorem stow_16 (h : Nio x16) : stow (x0 :: x1 :: x2 :: x3 :: x4 :: x5 :: x6 :: x7 :: x8 :: x9 :: x10 :: x11 :: x12 :: x13 :: x14 :: x15 :: x16 :: l) 16 sv = .ok () (x0 :: x1 :: x2 :: x3 :: x4 :: x5 :: x6 :: x7 :: x8 :: x9 :: x10 :: x11 :: x12 :: x13 :: x14 :: x15 :: sv :: l) := stow_at rfl h
@[simp] theorem stow_17 (h : Nio x17) : stow (x0 :: x1 :: x2 :: x3 :: x4 :: x5 :: x6 :: x7 :: x8 :: x9 :: x10 :: x11 :: x12 :: x13 :: x14 :: x15 :: x16 :: x17 :: l) 17 sv = .ok () (x0 :: x1 :: x2 :: x3 :: x4 :: x5 :: x6 :: x7 :: x8 :: x9 :: x10 :: x11 :: x12 :: x13 :: x14 :: x15 :: x16 :: sv :: l) := stow_at rfl h
@[simp] theorem stow_18 (h : Nio x18) : stow (x0 :: x1 :: x2 :: x3 :: x4 :: x5 :: x6 :: x7 :: x8 :: x9 :: x10 :: x11 :: x12 :: x13 :: x14 :: x15 :: x16 :: x17 :: x18 :: l) 18 sv = .ok () (x0 :: x1 :: x2 :: x3 :: x4 :: x5 :: x6 :: x7 :: x8 :: x9 :: x10 :: x11 :: x12 :: x13 :: x14 :: x15 :: x16 :: x17 :: sv :: l) := stow_at rfl h
@[simp] theorem stow_19 (h : Nio x19) : stow (x0 :: x1 :: x2 :: x3 :: x4 :: x5 :: x6 :: x7 :: x8 :: x9 :: x10 :: x11 :: x12 :: x13 :: x14 :: x15 :: x16 :: x17 :: x18 :: x19 :: l) 19 sv = .ok () (x0 :: x1 :: x2 :: x3 :: x4 :: x5 :: x6 :: x7 :: x8 :: x9 :: x10 :: x11 :: x12 :: x13 :: x14 :: x15 :: x16 :: x17 :: x18 :: sv :: l) := stow_at rfl h
@[simp] theorem stow_20 (h : Nio x20) : stow (x0 :: x1 :: x2 :: x3 :: x4 :: x5 :: x6 :: x7 :: x8 :: x9 :: x10 :: x11 :: x12 :: x13 :: x14 :: x15 :: x16 :: x17 :: x18 :: x19 :: x20 :: l) 20 sv = .ok () (x0 :: x1 :: x2 :: x3 :: x4 :: x5 :: x6 :: x7 :: x8 :: x9 :: x10 :: x11 :: x12 :: x13 :: x14 :: x15 :: x16 :: x17 :: x18 :: x19 :: sv :: l) := stow_at rfl h
end
def seqK (t : DM Fl) : Fl → SE → R Fl
  | .nx, ρ => t ρ
  | .rt r, ρ => .ok (.rt r) ρ
  | .bk, ρ => .ok .bk ρ
  | .ct, ρ => .ok .ct ρ
def varK (i : Nat) (o : Option SV) (ρ : SE) : R RV := match o with
  | some (.im d) => .ok (.im d) ρ
  | some (.ow _ _) => .ok (.bo i) ρ
  | _ => .bad
def parK (i j : Nat) (as : List AV) (ρ1 : SE) : R Fl := match as with
  | [.d d, .d e] => (stow ρ1 i (.im d)).bind fun _ ρ2 => (stow ρ2 j (.im e)).bind fun _ ρ3 => .ok .nx ρ3
  | _ => .bad
def aioK (i : Nat) (ms : DM (List AV)) (o : Option SV) (ρ : SE) : R (List AV) := match o with
  | some (.ow _ _) => (ms ρ).bind fun as ρ2 => match ρ2[i]? with
    | some (.ow _ _) => .ok (.io i :: as) ρ2
    | _ => .bad
  | _ => .bad
def aioL (i : Nat) (as : List AV) (o : Option SV) (ρ2 : SE) : R (List AV) := match o with
  | some (.ow _ _) => .ok (.io i :: as) ρ2
  | _ => .bad
def rg1K (ds : List D) (ρ1 : SE) : R (List D) := match ds with
  | [.int j] => if rngOk j = true then .ok ((List.range j.toNat).map fun (i : Nat) => D.int (0 + (i : Int))) ρ1 else .bad
  | _ => .bad
def vK (o : Option D) (ds : List D) (ρ2 : SE) : R (List D) := match o with
  | some d => .ok (d :: ds) ρ2
  | none => .bad
def lmO (i : Nat) (g : List D → List D → Option (D × List D)) (as : Option (List D)) (o : Option SV) (ρ1 : SE) : R RV := match o, as with
    | some (.ow io (.ls ds)), some xs => match g ds xs with
      | some (d, es) => .ok (.im d) (ρ1.set i (.ow io (.ls es)))
      | none => .bad
    | _, _ => .bad
def lmK (i : Nat) (g : List D → List D → Option (D × List D)) (ms : DM (List AV)) (o : Option SV) (ρ : SE) : R RV := match o with
  | some (.ow _ (.ls _)) => (ms ρ).bind fun as ρ1 => lmO i g (avD as) ρ1[i]? ρ1
  | _ => .bad
def lmP (i : Nat) (io : Bool) (o : Option (D × List D)) (ρ1 : SE) : R RV := match o with
  | some (d, es) => .ok (.im d) (ρ1.set i (.ow io (.ls es)))
  | none => .bad
def joinK (mb : DM RV) (x : RV) (ρ1 : SE) : R RV := match x with
  | .im (.str a) => (mb ρ1).bind fun y ρ2 => ofO ((look ρ2 y).bind (joinD (.str a))) ρ2
  | _ => .bad
section
variable {ρ ρ1 ρ2 : SE} {d e f : D} {i j n : Nat} {E : Exc → SE → Prop}
@[simp ↓, simp] theorem u_sSeq {s t : DM Fl} {c : Cont Fl} : Wp (sSeq s t ρ) = Wp ((s ρ).bind fun f ρ1 => seqK t f ρ1 : R (Fl)) := by
  have e : sSeq s t ρ = (s ρ).bind fun f ρ1 => seqK t f ρ1 := by
    show ((s ρ).bind fun f ρ1 => match f with
      | .nx => t ρ1
      | f => .ok f ρ1) = _
    cases s ρ with
    | bad => rfl
    | ex e ρ1 => rfl
    | ok f ρ1 => cases f <;> rfl
  rw [e]
@[simp ↓, simp] theorem u_sIf {mt : DM Bool} {s t : DM Fl} {c : Cont Fl} : Wp (sIf mt s t ρ) = Wp ((mt ρ).bind fun k ρ1 => if k = true then s ρ1 else t ρ1 : R (Fl)) := rfl
@[simp ↓, simp] theorem u_sSet {i : Nat} {m : DM RV} {c : Cont Fl} : Wp (sSet i m ρ) = Wp (((m ρ).bind asSV).bind fun sv ρ1 => (stow ρ1 i sv).bind fun _ ρ2 => .ok .nx ρ2 : R (Fl)) := rfl
@[simp ↓, simp] theorem u_sFor {mi : DM (List D)} {gm : D → SE → R Unit} {b : DM Fl} {c : Cont Fl} : Wp (sFor mi gm b ρ) = Wp ((mi ρ).bind fun ds ρ1 => floop gm b ds ρ1 : R (Fl)) := rfl
@[simp ↓, simp] theorem u_sRet {m : DM RV} {c : Cont Fl} : Wp (sRet m ρ) = Wp ((m ρ).bind fun r ρ1 => .ok (.rt r) ρ1 : R (Fl)) := rfl
@[simp ↓, simp] theorem u_sRetN {c : Cont Fl} : Wp (sRetN ρ) = Wp ((.ok (.rt (.im .non)) ρ : R Fl) : R (Fl)) := rfl
@[simp ↓, simp] theorem u_sExpr {m : DM RV} {c : Cont Fl} : Wp (sExpr m ρ) = Wp ((m ρ).bind fun _ ρ1 => (.ok .nx ρ1 : R Fl) : R (Fl)) := rfl
@[simp ↓, simp] theorem u_sPass {c : Cont Fl} : Wp (sPass ρ) = Wp ((.ok .nx ρ : R Fl) : R (Fl)) := rfl
@[simp ↓, simp] theorem u_sRaise0 {x T : Str} {c : Cont Fl} : Wp (sRaise0 x T ρ) = Wp ((.ex ⟨x, [("tag", .str T)]⟩ ρ : R Fl) : R (Fl)) := rfl
@[simp ↓, simp] theorem u_sPar {i j : Nat} {ms : DM (List AV)} {c : Cont Fl} : Wp (sPar i j ms ρ) = Wp ((ms ρ).bind fun as ρ1 => parK i j as ρ1 : R (Fl)) := rfl
@[simp ↓, simp] theorem u_dAndT {mt mu : DM Bool} {c : Cont Bool} : Wp (dAndT mt mu ρ) = Wp ((mt ρ).bind fun k ρ1 => if k = true then mu ρ1 else .ok false ρ1 : R (Bool)) := rfl
@[simp ↓, simp] theorem u_dOrT {mt mu : DM Bool} {c : Cont Bool} : Wp (dOrT mt mu ρ) = Wp ((mt ρ).bind fun k ρ1 => if k = true then .ok true ρ1 else mu ρ1 : R (Bool)) := rfl
@[simp ↓, simp] theorem u_dNotT {mt : DM Bool} {c : Cont Bool} : Wp (dNotT mt ρ) = Wp ((mt ρ).bind fun k ρ1 => .ok (!k) ρ1 : R (Bool)) := rfl
@[simp ↓, simp] theorem u_dAnd {ma mb : DM RV} {c : Cont RV} : Wp (dAnd ma mb ρ) = Wp (((ma ρ).bind asB).bind fun k ρ1 => if k = true then mb ρ1 else .ok (.im (.bl false)) ρ1 : R (RV)) := rfl
@[simp ↓, simp] theorem u_dIf {mt : DM Bool} {ma mb : DM RV} {c : Cont RV} : Wp (dIf mt ma mb ρ) = Wp ((mt ρ).bind fun k ρ1 => if k = true then ma ρ1 else mb ρ1 : R (RV)) := rfl
@[simp ↓, simp] theorem u_dVar {i : Nat} {c : Cont RV} : Wp (dVar i ρ) = Wp (varK i ρ[i]? ρ : R (RV)) := rfl
@[simp ↓, simp] theorem u_dC {d : D} {c : Cont RV} : Wp (dC d ρ) = Wp ((.ok (.im d) ρ : R RV) : R (RV)) := rfl
@[simp ↓, simp] theorem u_dOp1 {g : D → Option RV} {ma : DM RV} {c : Cont RV} : Wp (dOp1 g ma ρ) = Wp ((ma ρ).bind fun x ρ1 => ofO ((look ρ1 x).bind g) ρ1 : R (RV)) := rfl
@[simp ↓, simp] theorem u_dOp2 {g : D → D → Option RV} {ma mb : DM RV} {c : Cont RV} : Wp (dOp2 g ma mb ρ) = Wp ((ma ρ).bind fun x ρ1 => (mb ρ1).bind fun y ρ2 => ofO ((look ρ2 x).bind fun d => (look ρ2 y).bind fun e => g d e) ρ2 : R (RV)) := rfl
@[simp ↓, simp] theorem u_dFz {ma : DM RV} {c : Cont D} : Wp (dFz ma ρ) = Wp ((ma ρ).bind fz : R (D)) := rfl
@[simp ↓, simp] theorem u_aNil {c : Cont (List AV)} : Wp (aNil ρ) = Wp ((.ok [] ρ : R (List AV)) : R (List AV)) := rfl
@[simp ↓, simp] theorem u_aCons {ma : DM RV} {ms : DM (List AV)} {c : Cont (List AV)} : Wp (aCons ma ms ρ) = Wp ((dFz ma ρ).bind fun d ρ1 => (ms ρ1).bind fun as ρ2 => .ok (.d d :: as) ρ2 : R (List AV)) := rfl
@[simp ↓, simp] theorem u_aIo {i : Nat} {ms : DM (List AV)} {c : Cont (List AV)} : Wp (aIo i ms ρ) = Wp (aioK i ms ρ[i]? ρ : R (List AV)) := rfl
@[simp ↓, simp] theorem u_dCall {n : Nat} {ds : List D} {m : SE → R RV} {ms : DM (List AV)} {c : Cont RV} : Wp (dCall n ds m ms ρ) = Wp ((ms ρ).bind fun as ρ1 => if (as ++ ds.map AV.d).length = n then callR m (as ++ ds.map AV.d) ρ1 else .bad : R (RV)) := rfl
@[simp ↓, simp] theorem u_dLc {vs : List Nat} {mi : DM (List D)} {gm : D → SE → R Unit} {mt : DM Bool} {me : DM RV} {c : Cont RV} : Wp (dLc vs mi gm mt me ρ) = Wp ((mi ρ).bind fun ds ρ1 => (cLoop vs gm mt me ds [] ρ1).bind fun ys ρ2 => .ok (.ow (.ls ys)) ρ2 : R (RV)) := rfl
@[simp ↓, simp] theorem u_iSeq {m : DM RV} {c : Cont (List D)} : Wp (iSeq m ρ) = Wp ((dFz m ρ).bind iSeqs : R (List D)) := rfl
@[simp ↓, simp] theorem u_iRange1 {mv : DM (List D)} {c : Cont (List D)} : Wp (iRange1 mv ρ) = Wp ((mv ρ).bind fun ds ρ1 => rg1K ds ρ1 : R (List D)) := rfl
@[simp ↓, simp] theorem u_vNil {c : Cont (List D)} : Wp (vNil ρ) = Wp ((.ok [] ρ : R (List D)) : R (List D)) := rfl
@[simp ↓, simp] theorem u_vCons {ma : DM RV} {ms : DM (List D)} {c : Cont (List D)} : Wp (vCons ma ms ρ) = Wp ((ma ρ).bind fun x ρ1 => (ms ρ1).bind fun ds ρ2 => vK (look ρ2 x) ds ρ2 : R (List D)) := rfl
@[simp ↓, simp] theorem u_dCb {g : List D → Option RV} {mv : DM (List D)} {c : Cont RV} : Wp (dCb g mv ρ) = Wp ((mv ρ).bind fun ds ρ1 => ofO (g ds) ρ1 : R (RV)) := rfl
@[simp ↓, simp] theorem u_dTup {ms : DM (List AV)} {c : Cont RV} : Wp (dTup ms ρ) = Wp ((ms ρ).bind fun as ρ1 => ofO ((avD as).bind fun ds => if ds.length ≤ 1000 then some (.im (.tup ds)) else none) ρ1 : R (RV)) := rfl
@[simp ↓, simp] theorem u_dLst {ms : DM (List AV)} {c : Cont RV} : Wp (dLst ms ρ) = Wp ((ms ρ).bind fun as ρ1 => ofO ((avD as).bind fun ds => if ds.length ≤ 1000 then some (.ow (.ls ds)) else none) ρ1 : R (RV)) := rfl
@[simp ↓, simp] theorem u_dSl {ma : DM RV} {ml mh : DM (Option Int)} {c : Cont RV} : Wp (dSl ma ml mh ρ) = Wp ((ma ρ).bind fun x ρ1 => (ml ρ1).bind fun l ρ2 => (mh ρ2).bind fun u ρ3 => ofO ((look ρ3 x).bind fun d => slD d l u) ρ3 : R (RV)) := rfl
@[simp ↓, simp] theorem u_oNone {c : Cont (Option Int)} : Wp (oNone ρ) = Wp ((.ok none ρ : R (Option Int)) : R (Option Int)) := rfl
@[simp ↓, simp] theorem u_oSome {m : DM RV} {c : Cont (Option Int)} : Wp (oSome m ρ) = Wp ((m ρ).bind asPart : R (Option Int)) := rfl
@[simp ↓, simp] theorem u_lmD {i : Nat} {g : List D → List D → Option (D × List D)} {ms : DM (List AV)} {c : Cont RV} : Wp (lmD i g ms ρ) = Wp (lmK i g ms ρ[i]? ρ : R (RV)) := rfl
@[simp ↓, simp] theorem u_tgName {i : Nat} {d : D} {c : Cont Unit} : Wp (tgName i d ρ) = Wp (stow ρ i (.im d) : R (Unit)) := rfl
@[simp ↓, simp] theorem u_tYesD {c : Cont Bool} : Wp (tYesD ρ) = Wp ((.ok true ρ : R Bool) : R (Bool)) := rfl
@[simp ↓, simp] theorem u_cTurn {vs : List Nat} {gm : D → SE → R Unit} {mt : DM Bool} {me : DM RV} {d : D} {c : Cont (Option D)} : Wp (cTurn vs gm mt me d ρ) = Wp ((noEx (gm d (wipeR ρ vs))).bind fun _ ρ1 => (noEx (mt ρ1)).bind fun k ρ2 => if k = true then (noEx (dFz me ρ2)).bind fun y ρ3 => .ok (some y) (rest vs ρ ρ3) else .ok none (rest vs ρ ρ2) : R (Option D)) := rfl
@[simp ↓, simp] theorem u_dStrJoin {ma mb : DM RV} {c : Cont RV} : Wp (dStrJoin ma mb ρ) = Wp ((ma ρ).bind fun x ρ1 => joinK mb x ρ1 : R (RV)) := rfl
theorem seqK_nx {t : DM Fl} : seqK t .nx ρ = t ρ := rfl
@[simp] theorem seqK_rt {t : DM Fl} {r : RV} : seqK t (.rt r) ρ = .ok (.rt r) ρ := rfl
@[simp] theorem seqK_bk {t : DM Fl} : seqK t .bk ρ = .ok .bk ρ := rfl
@[simp] theorem seqK_ct {t : DM Fl} : seqK t .ct ρ = .ok .ct ρ := rfl
@[simp ↓, simp] theorem w_seq_nx {t : DM Fl} {c : Cont Fl} : Wp (seqK t .nx ρ) = Wp (t ρ) := congrArg (fun r : R Fl => Wp r) seqK_nx
@[simp] theorem varK_im : varK i (some (.im d)) ρ = .ok (.im d) ρ := rfl
@[simp] theorem varK_ow {io : Bool} {oc : OC} : varK i (some (.ow io oc)) ρ = .ok (.bo i) ρ := rfl
@[simp] theorem parK_two : parK i j [.d d, .d e] ρ = (stow ρ i (.im d)).bind fun _ ρ2 => (stow ρ2 j (.im e)).bind fun _ ρ3 => .ok .nx ρ3 := rfl
@[simp ↓, simp] theorem w_par {c : Cont Fl} : Wp (parK i j [.d d, .d e] ρ) = Wp ((stow ρ i (.im d)).bind fun _ ρ2 => (stow ρ2 j (.im e)).bind fun _ ρ3 => (.ok .nx ρ3 : R Fl)) := rfl
@[simp ↓, simp] theorem w_aio {ms : DM (List AV)} {io : Bool} {oc : OC} {c : Cont (List AV)} : Wp (aioK i ms (some (.ow io oc)) ρ) = Wp ((ms ρ).bind fun as ρ2 => aioL i as ρ2[i]? ρ2) := rfl
@[simp] theorem aioL_ow {as : List AV} {io : Bool} {oc : OC} : aioL i as (some (.ow io oc)) ρ = .ok (.io i :: as) ρ := rfl
@[simp] theorem rg1K_int {k : Int} : rg1K [.int k] ρ = if rngOk k = true then .ok ((List.range k.toNat).map fun (i : Nat) => D.int (0 + (i : Int))) ρ else .bad := rfl
@[simp] theorem vK_some {ds : List D} : vK (some d) ds ρ = .ok (d :: ds) ρ := rfl
@[simp ↓, simp] theorem w_lm {g : List D → List D → Option (D × List D)} {ms : DM (List AV)} {io : Bool} {ds : List D} {c : Cont RV} : Wp (lmK i g ms (some (.ow io (.ls ds))) ρ) = Wp ((ms ρ).bind fun as ρ1 => lmO i g (avD as) ρ1[i]? ρ1) := rfl
@[simp] theorem lmO_ls {g : List D → List D → Option (D × List D)} {io : Bool} {ds xs : List D} : lmO i g (some xs) (some (.ow io (.ls ds))) ρ = lmP i io (g ds xs) ρ := rfl
@[simp] theorem lmP_some {io : Bool} {es : List D} : lmP i io (some (d, es)) ρ = .ok (.im d) (ρ.set i (.ow io (.ls es))) := rfl
@[simp ↓, simp] theorem w_join {mb : DM RV} {a : Str} {c : Cont RV} : Wp (joinK mb (.im (.str a)) ρ) = Wp ((mb ρ).bind fun y ρ2 => ofO ((look ρ2 y).bind (joinD (.str a))) ρ2) := rfl
@[simp] theorem avD_nil : avD [] = some [] := rfl
@[simp] theorem avD_cons {as : List AV} : avD (.d d :: as) = (avD as).map (d :: ·) := rfl
@[simp] theorem avD_map {ds : List D} : avD (ds.map AV.d) = some ds := by
  induction ds with
  | nil => rfl
  | cons d ds ih =>
    rw [List.map_cons, avD_cons, ih]
    rfl
def lookK : Option SV → Option D
  | some (.ow _ oc) => some oc.D
  | _ => none
@[simp] theorem look_bo : look ρ (.bo i) = lookK ρ[i]? := rfl
@[simp] theorem lookK_ow {io : Bool} {oc : OC} : lookK (some (.ow io oc)) = some oc.D := rfl
def fzK (i : Nat) (o : Option SV) (ρ : SE) : R D := match o with
  | some (.ow false oc) => .ok oc.D (ρ.set i (.im oc.D))
  | _ => .bad
@[simp] theorem fz_bo : fz (.bo i) ρ = fzK i ρ[i]? ρ := rfl
@[simp] theorem fzK_ow {oc : OC} : fzK i (some (.ow false oc)) ρ = .ok oc.D (ρ.set i (.im oc.D)) := rfl
def asK (i : Nat) (o : Option SV) (ρ : SE) : R SV := match o with
  | some (.ow false oc) => .ok (.im oc.D) (ρ.set i (.im oc.D))
  | _ => .bad
@[simp] theorem asSV_bo : asSV (.bo i) ρ = asK i ρ[i]? ρ := rfl
@[simp] theorem asK_ow {oc : OC} : asK i (some (.ow false oc)) ρ = .ok (.im oc.D) (ρ.set i (.im oc.D)) := rfl
@[simp] theorem asPart_int {k : Int} : asPart (.im (.int k)) ρ = .ok (some k) ρ := rfl
@[simp] theorem iSeqs_lst {ds : List D} : iSeqs (.lst ds) ρ = .ok ds ρ := rfl
@[simp] theorem iSeqs_tup {ds : List D} : iSeqs (.tup ds) ρ = .ok ds ρ := rfl
@[simp] theorem iSeqs_scr {ns : List Int} : iSeqs (.scr ns) ρ = .ok (ns.map D.int) ρ := rfl
@[simp] theorem iSeqs_str {x : Str} : iSeqs (.str x) ρ = .ok (x.cps.toList.map fun c => D.str ⟨#[c]⟩) ρ := rfl
@[simp] theorem mRet_nx {svs : SE} : mRet svs .nx ρ = .ok (.im .non) (outs svs ρ) := rfl
@[simp] theorem mRet_im {svs : SE} : mRet svs (.rt (.im d)) ρ = .ok (.im d) (outs svs ρ) := rfl
@[simp] theorem mRet_ow {svs : SE} {oc : OC} : mRet svs (.rt (.ow oc)) ρ = .ok (.ow oc) (outs svs ρ) := rfl
def retK (svs : SE) (o : Option SV) (ρ : SE) : R RV := match o with
  | some (.ow false ds) => .ok (.ow ds) (outs svs ρ)
  | _ => .bad
@[simp] theorem mRet_bo {svs : SE} : mRet svs (.rt (.bo i)) ρ = retK svs ρ[i]? ρ := rfl
@[simp] theorem retK_ow {svs : SE} {oc : OC} : retK svs (some (.ow false oc)) ρ = .ok (.ow oc) (outs svs ρ) := rfl
@[simp] theorem outs_nil : outs [] ρ = [] := by
  cases ρ <;> rfl
@[simp] theorem outs_cons {sv sw : SV} {r s : SE} : outs (sv :: r) (sw :: s) = out1 sv sw :: outs r s := rfl
@[simp] theorem out1_im {sv : SV} : out1 (.im d) sv = .im d := by
  cases sv <;> rfl
@[simp] theorem out1_ow {oc o2 : OC} : out1 (.ow true oc) (.ow true o2) = .ow true o2 := rfl
@[simp ↓, simp] theorem w_noEx {α : Type} {r : R α} {Q : α → SE → Prop} : WP (noEx r) Q E = WP r Q noX := by
  cases r with
  | bad => exact wp_bad.trans wp_bad.symm
  | ok a ρ => exact wp_ok.trans wp_ok.symm
  | ex e ρ => exact wp_bad.trans (wp_ex (E := noX)).symm
@[simp ↓, simp] theorem w_tup {gs : List D → SE → R Unit} {ds : List D} {c : Cont Unit} : Wp (tgTup n gs (.tup ds) ρ) = Wp (if ds.length = n then gs ds ρ else .bad) := rfl
@[simp ↓, simp] theorem w_tcons {g : D → SE → R Unit} {gs : List D → SE → R Unit} {ds : List D} {c : Cont Unit} : Wp (tgCons g gs (d :: ds) ρ) = Wp ((g d ρ).bind fun _ ρ1 => gs ds ρ1) := rfl
@[simp ↓, simp] theorem w_tnil {c : Cont Unit} : Wp (tgNil [] ρ) = Wp (.ok () ρ : R Unit) := rfl
@[simp ↓, simp] theorem w_if_t {α : Type} {r s : R α} {c : Cont α} : Wp (if true = true then r else s) = Wp r := congrArg (fun r : R α => Wp r) (if_pos rfl)
@[simp ↓, simp] theorem w_if_f {α : Type} {r s : R α} {c : Cont α} : Wp (if false = true then r else s) = Wp s := congrArg (fun r : R α => Wp r) (if_neg Bool.false_ne_true)
@[simp] theorem putD_nil {x : Str} : putD x d [] = [(x, d)] := rfl
@[simp] theorem putD_cons {x y : Str} {fs : List (Str × D)} : putD x d ((y, e) :: fs) = if y = x then (y, d) :: fs else (y, e) :: putD x d fs := rfl
@[simp] theorem wipeR_nil : wipeR ρ [] = ρ := rfl
@[simp] theorem wipeR_cons {v : Nat} {vs : List Nat} : wipeR ρ (v :: vs) = (wipeR ρ vs).set v .no := rfl
@[simp] theorem addO_some {acc : List D} : addO acc (some d) = acc ++ [d] := rfl
@[simp] theorem addO_none {acc : List D} : addO acc none = acc := rfl
end
end DL

/- part -/
set_option Elab.async false
set_option linter.all false
set_option maxRecDepth 100000
set_option maxHeartbeats 1000000
namespace DL
open PySem PySem.Spec PyProof.Rows L2
section
variable {i j k : Int} {x : Str} {ds : List D} {d e : D} {ns : List Int} {ρ : SE}
@[simp] theorem negD_intA : negD (.int i) = some (.im (.int (-i))) := rfl
@[simp] theorem cutL_from {α : Type} {xs : List α} (h : 0 ≤ k) : cutL xs (some k) none = xs.drop k.toNat := by
  obtain ⟨n, rfl⟩ := Int.eq_ofNat_of_zero_le h
  have e := HT.sIx_nat xs.length 0 n
  unfold cutL
  rw [HT.sIx_none]
  show (xs.drop (HT.sIx xs.length 0 (some (n : Int)))).take (xs.length - HT.sIx xs.length 0 (some (n : Int))) = _
  rw [e, Int.toNat_natCast]
  by_cases hn : n ≤ xs.length
  · rw [Nat.min_eq_left hn, List.take_of_length_le (by rw [List.length_drop]; exact Nat.le_refl _)]
  · rw [Nat.min_eq_right (by omega), List.drop_length, List.drop_of_length_le (by omega)]
    simp
@[simp] theorem cutL_to {α : Type} {xs : List α} (h : 0 ≤ k) : cutL xs none (some k) = xs.take k.toNat := by
  obtain ⟨n, rfl⟩ := Int.eq_ofNat_of_zero_le h
  have e := HT.sIx_nat xs.length xs.length n
  unfold cutL
  rw [HT.sIx_none]
  show (xs.drop 0).take (HT.sIx xs.length xs.length (some (n : Int)) - 0) = _
  rw [e, Int.toNat_natCast, Nat.sub_zero, List.drop_zero]
  by_cases hn : n ≤ xs.length
  · rw [Nat.min_eq_left hn]
  · rw [Nat.min_eq_right (by omega), List.take_of_length_le (by omega), List.take_of_length_le (by omega)]
@[simp] theorem slD_tupA {lo hi : Option Int} : slD (.tup ds) lo hi = some (.im (.tup (cutL ds lo hi))) := rfl
@[simp] theorem gTuple_lstA : gTuple [.lst ds] = some (.im (.tup ds)) := rfl
@[simp] theorem gTuple_tupA : gTuple [.tup ds] = some (.im (.tup ds)) := rfl
@[simp] theorem gList_tupA : gList [.tup ds] = some (.ow (.ls ds)) := rfl
@[simp] theorem gAbs_intA : gAbs [.int i] = some (.im (.int ((i.natAbs : Nat) : Int))) := by
  show some (RV.im (.int (if i < 0 then -i else i))) = _
  congr 3
  split <;> omega
end
section
variable {α : Type} {ρ : SE} {Q : List D → SE → Prop} {E : Exc → SE → Prop} {vs : List Nat} {gm : D → SE → R Unit} {mt : DM Bool} {me : DM RV} {ds : List D}
end
end DL

/- part -/
set_option Elab.async false
set_option linter.all false
set_option maxRecDepth 100000
set_option maxHeartbeats 1000000
namespace DL
open PySem PySem.Spec PyProof.Rows L2
section
variable {X : Cx} {pins : List (Addr × Obj)} {σ : L2.St} {H : Hp} {s : Shared} {Q : VK} {us : List Value} {vs : List V} {k : Nat} {C f a : Addr} {fd : FuncData} {ps : List Str} {sp : Sp} {A : Around}
end
end DL

/- part -/
set_option Elab.async false
set_option linter.all false
set_option maxRecDepth 100000
set_option maxHeartbeats 1000000
namespace DL
open PySem PySem.Spec PyProof.Rows L2
section
variable {prog : Program} {w : World} {A : Around} {E : Value → Shared → Prop} {s : Shared} {K : PySem.W.Frag} {x C f L : Addr} {ox : Obj} {od : Option Obj} {b tb : Value} {h0 : Heap} {m : Str → Option Value}
end
section
variable {X : Cx} {pins : List (Addr × Obj)} {σ : L2.St} {H : Hp} {s : Shared} {Q : VK} {us : List Value} {vs : List V} {k : Nat} {C f a : Addr} {fd : FuncData} {ps : List Str} {sp : Sp} {A : Around}
end
end DL

/- part -/
set_option Elab.async false
set_option linter.all false
set_option maxRecDepth 100000
set_option maxHeartbeats 1000000
namespace DL
open PySem PySem.Spec PyProof.Rows L2
section
variable {M : Mx} {W : WX} {X : Cx} {F H F' H' F1 H1 F2 H2 H0 : Hp} {σ : L2.St} {ρ ρ1 ρ2 : SE}
variable {P : Program} {w : World} {base : Heap} {N : List Str} {sc : Scope} {j k : Nat}
variable {a b c e : Expr} {ma mb m : DM RV} {es : List Expr} {ms : DM (List AV)} {pos p p' q : Pos} {cl : Str} {mm : SE → R RV}
end
end DL

/- part -/
set_option Elab.async false
set_option linter.all false
set_option maxRecDepth 100000
set_option maxHeartbeats 1000000
namespace DL
open PySem PySem.Spec PyProof.Rows L2
section
variable {M : Mx} {F H F' H' F1 H1 : Hp} {a : Addr} {n : Nat} {vs : List V}
end
section
variable {M : Mx} {W : WX} {F H F' H' F1 H1 : Hp} {σ : L2.St} {ρ ρ' : SE} {a : Addr} {n i : Nat} {vs : List V} {xs : List D} {io : Bool}
end
end DL

/- part -/
set_option Elab.async false
set_option linter.all false
set_option maxRecDepth 100000
set_option maxHeartbeats 1000000
namespace DL
open PySem PySem.Spec PyProof.Rows L2
def sParO (i j : Nat) (ma mb : DM RV) : DM Fl := fun ρ => ((ma ρ).bind asSV).bind fun sv ρ1 => ((mb ρ1).bind asSV).bind fun sw ρ2 => (stow ρ2 i sv).bind fun _ ρ3 => (stow ρ3 j sw).bind fun _ ρ4 => .ok .nx ρ4
section
variable {M : Mx} {W : WX} {X : Cx} {F H F' H' F1 H1 F2 H2 H0 : Hp} {σ σ1 : L2.St} {ρ ρ1 ρ2 : SE}
variable {a b : Expr} {ma mb : DM RV} {pos : Pos}
theorem svOk_step {v : V} {sv : SV} (ok : SvOk M H0 F1 H1 σ ρ1 v sv) (st : Stp F1 H1 σ ρ1 F2 H2 σ ρ2) : SvOk M H0 F2 H2 σ ρ2 v sv := by
  cases sv with
  | no => exact ok
  | im d => exact Rep.up st.same ok
  | ow io oc =>
    cases io with
    | true => exact ok
    | false =>
      obtain ⟨a, o, e, h1, h2, h3, h4, h5⟩ := ok
      refine ⟨a, o, e, st.keep _ _ h1 h4 h3.nt, ?_, h3.up st.same, fun z => ?_, h5⟩
      · cases e2 : F2 a with
        | none => rfl
        | some u =>
          rcases st.newF a u e2 with z | z | z
          · rw [h2] at z
            cases z
          · exact (h4 z).elim
          · exact (z.no h1 h3.nt).elim
      · rcases st.new a z with z | z
        · exact h4 z
        · exact z.no h1 h3.nt
theorem ds_parO {i j : Nat} {x y : Str} {px py pt : Pos} {kt k2 pt2} (ha : DE X M W a ma) (hb : DE X M W b mb) (hc : X.calm = true) (hN : X.N.Nodup) (hi : X.N[i]? = some x) (hj : X.N[j]? = some y) (hij : i ≠ j)
    (hx : X.env.scope.names.lookup x = some .local) (hy : X.env.scope.names.lookup y = some .local)
    (hw : swappedStores [.Tuple [.Name x px, .Name y py] kt pt] (.Tuple [a, b] k2 pt2) X.env = pure (some [x, y]))
    (hs : swapsWithSole [.Tuple [.Name x px, .Name y py] kt pt] (.Tuple [a, b] k2 pt2) pos.line X.env = pure false)
    (s1 : starEach [a, b] X.env = (false, eval a X.env) :: starEach [b] X.env := by rfl) (s2 : starEach [b] X.env = (false, eval b X.env) :: starEach [] X.env := by rfl) : DS X M W (.Assign [.Tuple [.Name x px, .Name y py] kt pt] (.Tuple [a, b] k2 pt2) pos) (sParO i j ma mb) := by
  obtain ⟨ta, pa, qa⟩ := ha
  obtain ⟨tb, pb, qb⟩ := hb
  refine ⟨_, ps_par hc hN hi hj hij hx hy (pa_cons pa (pa_cons pb pa_nil s2) s1) hw hs, fun σ H F ρ E sm h => ?_⟩
  unfold sParO at h
  refine qa σ H F ρ _ sm ?_
  cases e1 : ma ρ with
  | bad =>
    rw [e1] at h
    exact h.elim
  | ex e ρ1 =>
    rw [e1] at h
    exact fun F' H' cls d st sm' ok => h F' H' σ cls d st sm' ok
  | ok r1 ρ1 =>
    rw [e1] at h
    intro F1 H1 v st1 sm1 ok1
    have h : PostS M W σ ρ F H ((asSV r1 ρ1).bind fun sv ρ1 => ((mb ρ1).bind asSV).bind fun sw ρ2 => (stow ρ2 i sv).bind fun _ ρ3 => (stow ρ3 j sw).bind fun _ ρ4 => .ok .nx ρ4) E := h
    cases e2 : asSV r1 ρ1 with
    | bad =>
      rw [e2] at h
      exact h.elim
    | ex e ρ2 => exact (asSV_ex e2).elim
    | ok sv ρ2 =>
      rw [e2] at h
      obtain ⟨F2, st2, sm2, ok2⟩ := asSV_ok st1 ok1 sm1 e2
      have h : PostS M W σ ρ F H (((mb ρ2).bind asSV).bind fun sw ρ2 => (stow ρ2 i sv).bind fun _ ρ3 => (stow ρ3 j sw).bind fun _ ρ4 => .ok .nx ρ4) E := h
      refine qb σ H1 F2 ρ2 _ sm2 ?_
      cases e3 : mb ρ2 with
      | bad =>
        rw [e3] at h
        exact h.elim
      | ex e ρ3 =>
        rw [e3] at h
        exact fun F' H' cls d st sm' ok => h F' H' σ cls d (st2.trans st) sm' ok
      | ok r2 ρ3 =>
        rw [e3] at h
        intro F3 H3 w st3 sm3 ok3
        have h : PostS M W σ ρ F H ((asSV r2 ρ3).bind fun sw ρ2 => (stow ρ2 i sv).bind fun _ ρ3 => (stow ρ3 j sw).bind fun _ ρ4 => .ok .nx ρ4) E := h
        cases e4 : asSV r2 ρ3 with
        | bad =>
          rw [e4] at h
          exact h.elim
        | ex e ρ4 => exact (asSV_ex e4).elim
        | ok sw ρ4 =>
          rw [e4] at h
          obtain ⟨F4, st4, sm4, ok4⟩ := asSV_ok st3 ok3 sm3 e4
          have h : PostS M W σ ρ F H ((stow ρ4 i sv).bind fun _ ρ3 => (stow ρ3 j sw).bind fun _ ρ4 => .ok .nx ρ4) E := h
          have ok5 := svOk_step ok2 st4
          cases e5 : stow ρ4 i sv with
          | bad =>
            rw [e5] at h
            exact h.elim
          | ex e ρ5 => exact (stow_ex e5).elim
          | ok u ρ5 =>
            rw [e5] at h
            obtain ⟨st6, sm6⟩ := stow_ok (st2.trans st4) ok5 sm4 e5
            have h : PostS M W σ ρ F H ((stow ρ5 j sw).bind fun _ ρ4 => .ok .nx ρ4) E := h
            cases e6 : stow ρ5 j sw with
            | bad =>
              rw [e6] at h
              exact h.elim
            | ex e ρ6 => exact (stow_ex e6).elim
            | ok u ρ6 =>
              rw [e6] at h
              have set5 : ρ5 = ρ4.set i sv := by
                unfold stow at e5
                split at e5
                · cases e5
                · cases e5
                  rfl
                · cases e5
              have ok6 : SvOk M H F4 H3 (σ.set i (some v)) ρ5 w sw := by
                cases sw with
                | no => exact ok4
                | im d => exact ok4
                | ow io oc =>
                  cases io with
                  | true => exact ok4
                  | false =>
                    obtain ⟨c, o, z1, z2, z3, z4, z5, z6⟩ := ok4
                    refine ⟨c, o, z1, z2, z3, z4, fun z => ?_, st2.dom _ z6⟩
                    rw [set5] at z
                    rcases own_set' z with z | ⟨q1, io, oc', q2⟩
                    · exact z5 z
                    · subst q1 q2
                      cases io with
                      | true => exact ok2.elim
                      | false =>
                        obtain ⟨c', o', y1, y2, y3, y4, y5, y6⟩ := ok2
                        cases y1
                        exact z6.no y2 y4.nt
              obtain ⟨st7, sm7⟩ := stow_ok (v := w) st6 ok6 sm6 e6
              exact ⟨v, w, rfl, h F4 H3 _ st7 sm7⟩
end
section
variable {P : Program} {w : World} {base : Heap} {N : List Str} {sc : Scope} {jj : Nat} {M : Mx} {W : WX} {X : Cx} {a b : Expr} {ma mb : DM RV} {pos : Pos}
theorem ds_parOv {x y : Str} {px py pt : Pos} {kt k2 pt2} (C : CxD P w base M N sc jj X W) (i l : Nat) (hx : sc.names.lookup x = some .local) (hy : sc.names.lookup y = some .local) (hl : (py.line == px.line) = true) (hne : (y == x) = false) (ha : DE X M W a ma) (hb : DE X M W b mb) (hi : N[i]? = some x := by rfl) (hj : N[l]? = some y := by rfl) (hij : i ≠ l := by decide)
    (h1 : ∀ v q, a ≠ .Starred v q := by intro _ _ z; cases z) (h2 : ∀ v q, b ≠ .Starred v q := by intro _ _ z; cases z) (h3 : [a, b].all (foldedForSure 8) = false := by rfl) (h4 : [a, b].all (constantsAlone 8) = false := by rfl)
    (s1 : starEach [a, b] X.env = (false, eval a X.env) :: starEach [b] X.env := by rfl) (s2 : starEach [b] X.env = (false, eval b X.env) :: starEach [] X.env := by rfl)
    (hs : swapsWithSole [.Tuple [.Name x px, .Name y py] kt pt] (.Tuple [a, b] k2 pt2) pos.line X.env = pure false := by rfl) : DS X M W (.Assign [.Tuple [.Name x px, .Name y py] kt pt] (.Tuple [a, b] k2 pt2) pos) (sParO i l ma mb) := by
  have hx2 : X.env.scope.names.lookup x = some .local := by rw [C.hs]; exact hx
  have hy2 : X.env.scope.names.lookup y = some .local := by rw [C.hs]; exact hy
  exact ds_parO ha hb C.cm C.nd' (C.ix hi) (C.ix hj) hij hx2 hy2 (swapped2 (by rw [C.hs]; exact C.hf) hx2 hy2 hl hne h1 h2 h3 h4) hs s1 s2
end
section
variable {ρ : SE} {d e : D} {i j n : Nat} {x : Str} {mm : SE → R RV} {fs : List (Str × D)} {r : R RV} {Q : RV → SE → Prop} {E : Exc → SE → Prop}
@[simp ↓, simp] theorem u_parO {ma mb : DM RV} {c : Cont Fl} : Wp (sParO i j ma mb ρ) = Wp (((ma ρ).bind asSV).bind fun sv ρ1 => ((mb ρ1).bind asSV).bind fun sw ρ2 => (stow ρ2 i sv).bind fun _ ρ3 => (stow ρ3 j sw).bind fun _ ρ4 => .ok .nx ρ4 : R Fl) := rfl
end
end DL

/- part -/
set_option Elab.async false
set_option linter.all false
set_option maxRecDepth 100000
set_option maxHeartbeats 1000000
namespace DL
open PySem PySem.Spec PyProof.Rows L2
mutual
def pg : Nat → D → Bool
  | 0, _ => false
  | _ + 1, .non => true
  | _ + 1, .bl _ => true
  | _ + 1, .int _ => true
  | _ + 1, .str x => x.cps.all (· < 0x110000)
  | n + 1, .tup ds => pgs n ds
  | n + 1, .lst ds => pgs n ds
  | _ + 1, _ => false
def pgs : Nat → List D → Bool
  | _, [] => true
  | n, d :: r => pg n d && pgs n r
end
mutual
theorem pg_up : ∀ (n : Nat) (d : D), pg n d = true → pg (n + 1) d = true
  | 0, d, h => by
    unfold pg at h
    cases h
  | n + 1, d, h => by
    cases d with
    | tup ds =>
      unfold pg at h ⊢
      exact pgs_up n ds h
    | lst ds =>
      unfold pg at h ⊢
      exact pgs_up n ds h
    | _ =>
      unfold pg at h ⊢
      exact h
theorem pgs_up : ∀ (n : Nat) (ds : List D), pgs n ds = true → pgs (n + 1) ds = true
  | n, [], h => by
    unfold pgs
    rfl
  | n, d :: r, h => by
    unfold pgs at h ⊢
    obtain ⟨h1, h2⟩ := Bool.and_eq_true_iff.mp h
    rw [pg_up n d h1, pgs_up n r h2]
    rfl
end
theorem pg_le {n m : Nat} {d : D} (h : pg n d = true) (hm : n ≤ m) : pg m d = true := by
  induction hm with
  | refl => exact h
  | step _ ih => exact pg_up _ _ ih
mutual
theorem pg_all : ∀ (n : Nat) (d : D), pg n d = true → plain n d = true ∧ (toPy d).canLay0 = true ∧ (toPy d).depth ≤ n
  | 0, d, h => by
    unfold pg at h
    cases h
  | n + 1, d, h => by
    cases d with
    | tup ds =>
      unfold pg at h
      obtain ⟨h1, h2, h3⟩ := pgs_all n ds h
      unfold plain toPy
      refine ⟨h1, ?_, ?_⟩
      · simp only [PyData.canLay0]
        exact h2
      · simp only [PyData.depth]
        omega
    | lst ds =>
      unfold pg at h
      obtain ⟨h1, h2, h3⟩ := pgs_all n ds h
      unfold plain toPy
      refine ⟨h1, ?_, ?_⟩
      · simp only [PyData.canLay0]
        exact h2
      · simp only [PyData.depth]
        omega
    | str x =>
      unfold pg at h
      refine ⟨rfl, h, ?_⟩
      show _ ≤ _
      simp [toPy, PyData.depth]
    | non => exact ⟨rfl, rfl, by simp [toPy, PyData.depth]⟩
    | bl b => exact ⟨rfl, rfl, by simp [toPy, PyData.depth]⟩
    | int b => exact ⟨rfl, rfl, by simp [toPy, PyData.depth]⟩
    | _ =>
      unfold pg at h
      cases h
theorem pgs_all : ∀ (n : Nat) (ds : List D), pgs n ds = true → plains n ds = true ∧ PyData.canLayAll0 (toPys ds) = true ∧ PyData.depthAll (toPys ds) ≤ n
  | n, [], h => ⟨by unfold plains; rfl, by unfold toPys; rfl, by unfold toPys; simp [PyData.depthAll]⟩
  | n, d :: r, h => by
    unfold pgs at h
    obtain ⟨h1, h2⟩ := Bool.and_eq_true_iff.mp h
    obtain ⟨a1, a2, a3⟩ := pg_all n d h1
    obtain ⟨b1, b2, b3⟩ := pgs_all n r h2
    unfold plains toPys
    refine ⟨by rw [a1, b1]; rfl, ?_, ?_⟩
    · simp only [PyData.canLayAll0]
      rw [a2, b2]
      rfl
    · simp only [PyData.depthAll]
      omega
end
theorem okc_of {n : Nat} {d : D} (h : pg n d = true) (hn : n ≤ 64) : okc d = true := by
  obtain ⟨a, b, c⟩ := pg_all 64 d (pg_le h hn)
  unfold okc SeqAt.shaped
  rw [a, b, decide_eq_true c]
  rfl
theorem eqv_self {n : Nat} {d : D} (h : pg n d = true) (hn : n ≤ 64) : eqv d d = true := by
  have := okc_of h hn
  unfold okc at this
  exact SeqAt.eqv_refl _ (SeqAt.canLay_of_shaped (Bool.and_eq_true_iff.mp this).2)
theorem eq_self {n : Nat} {d : D} (h : pg n d = true) (hn : n ≤ 64) : eqD d d = some (.im (.bl true)) := by
  unfold eqD
  rw [okc_of h hn, eqv_self h hn]
  rfl
theorem ne_self {n : Nat} {d : D} (h : pg n d = true) (hn : n ≤ 64) : neD d d = some (.im (.bl false)) := by
  unfold neD
  rw [okc_of h hn, eqv_self h hn]
  rfl
@[simp] theorem addD_lstA {a b : List D} (h : a.length + b.length ≤ 1000000) : addD (.lst a) (.lst b) = some (.ow (.ls (a ++ b))) := if_pos h
@[simp] theorem addD_tupA {a b : List D} (h : a.length + b.length ≤ 1000000) : addD (.tup a) (.tup b) = some (.im (.tup (a ++ b))) := if_pos h
theorem addD_strA {a b : Str} (h : a.length + b.length ≤ 1000000) : addD (.str a) (.str b) = some (.im (.str (a ++ b))) := if_pos h
section
variable {α : Type} {r : R α} {ρ : SE} {Q : α → SE → Prop} {E : Exc → SE → Prop}
theorem wp_floopJ {gm : D → SE → R Unit} {b : DM Fl} {Q : Fl → SE → Prop} {ds : List D} (I : Nat → SE → Prop) (h0 : I 0 ρ) (hs : ∀ i d ρ (J : SE → Prop), ds[i]? = some d → I i ρ → (∀ ρ, I (i + 1) ρ → J ρ) → WP (gm d ρ) (fun _ ρ1 => WP (b ρ1) (loopQ Q J) E) E) (hd : ∀ ρ, I ds.length ρ → Q .nx ρ) : WP (floop gm b ds ρ) Q E :=
  wp_floop I h0 (fun i d ρ e h => hs i d ρ _ e h fun _ z => z) hd
theorem wp_cloopJ {vs : List Nat} {gm : D → SE → R Unit} {mt : DM Bool} {me : DM RV} {Q : List D → SE → Prop} {ds : List D} (I : Nat → List D → SE → Prop) (hz : ds.length ≤ 1000000) (h0 : I 0 [] ρ) (hw : ∀ i acc ρ, I i acc ρ → noOw ρ vs = true ∧ acc.length ≤ i)
    (hs : ∀ i d acc ρ (J : List D → SE → Prop), ds[i]? = some d → I i acc ρ → (∀ a ρ, I (i + 1) a ρ → J a ρ) → WP (cTurn vs gm mt me d ρ) (fun o ρ1 => J (addO acc o) ρ1) E) (hd : ∀ acc ρ, I ds.length acc ρ → Q acc ρ) : WP (cLoop vs gm mt me ds [] ρ) Q E :=
  wp_cloop I hz h0 hw (fun i d acc ρ e h => hs i d acc ρ (I (i + 1)) e h fun _ _ z => z) hd
end
end DL

/- part -/
set_option Elab.async false
set_option linter.all false
set_option maxRecDepth 100000
set_option maxHeartbeats 1000000
namespace DL
open PySem PySem.Spec PyProof.Rows L2
section
variable {prog : Program} {w : World} {A : Around} {E : Value → Shared → Prop} {s : Shared}
def ZtSt (h : Heap) (q ti to i1 i2 l1 l2 S : Addr) (xs ys : Array Value) (i : Nat) : Prop :=
  PySem.IsPair h ti (.ref i1) (.ref i2) ∧ h.IsTupleIter i1 l1 i ∧ h.IsTupleIter i2 l2 i ∧ h.IsTuple l1 xs ∧ h.IsTuple l2 ys ∧
  ((IsZip h q ti to .none ∧ ∃ a b, PySem.IsPair h to a b) ∨ ∃ u f ou, IsZipHeld h q ti to u f ∧ h.get? u = some ou ∧ u ≠ q ∧ u ≠ i1 ∧ u ≠ i2 ∧ u ≠ S)
structure ZtAp (q ti to i1 i2 l1 l2 S : Addr) : Prop where
  D : ZipApart q ti to i1 i2 l1 l2
  qS : q ≠ S
  tiS : ti ≠ S
  toS : to ≠ S
  i1S : i1 ≠ S
  i2S : i2 ≠ S
  l1S : l1 ≠ S
  l2S : l2 ≠ S
theorem ZtSt.keep {h h' : Heap} {q ti to i1 i2 l1 l2 S : Addr} {xs ys : Array Value} {i : Nat} (B : ZtAp q ti to i1 i2 l1 l2 S) (x : ZtSt h q ti to i1 i2 l1 l2 S xs ys i) (hk : ∀ b o, b ≠ S → h.get? b = some o → h'.get? b = some o) : ZtSt h' q ti to i1 i2 l1 l2 S xs ys i := by
  obtain ⟨a1, a2, a3, a4, a5, a6⟩ := x
  refine ⟨hk _ _ B.tiS a1, a2.at fun o e => hk _ o B.i1S e, a3.at fun o e => hk _ o B.i2S e, a4.at fun o e => hk _ o B.l1S e, a5.at fun o e => hk _ o B.l2S e, ?_⟩
  rcases a6 with ⟨z1, a, b, z2⟩ | ⟨u, f, ou, z1, z2, n1, n2, n3, n4⟩
  · exact .inl ⟨hk _ _ B.qS z1, a, b, hk _ _ B.toS z2⟩
  · exact .inr ⟨u, f, ou, hk _ _ B.qS z1, hk _ _ n4 z2, n1, n2, n3, n4⟩
end
end DL

/- part -/
set_option Elab.async false
set_option linter.all false
set_option maxRecDepth 100000
set_option maxHeartbeats 1000000
namespace DL
open PySem PySem.Spec PyProof.Rows L2
structure ZtG (xs ys : Array Value) (lo : Addr) (h : Heap) (as : List Addr) : Prop where
  rise : as.Pairwise (· < ·)
  above : ∀ a ∈ as, lo < a
  pairs : ∀ (j : Nat) (a : Addr), as[j]? = some a → ∃ x y, xs[j]? = some x ∧ ys[j]? = some y ∧ PySem.IsPair h a x y
theorem ZtG.there {xs ys : Array Value} {lo : Addr} {h : Heap} {as : List Addr} (g : ZtG xs ys lo h as) {a : Addr} (ha : a ∈ as) : a < h.objs.size := by
  obtain ⟨j, hj⟩ := List.mem_iff_getElem?.mp ha
  obtain ⟨_, _, _, _, e⟩ := g.pairs j a hj
  exact Heap.lt_size e
section
variable {prog : Program} {w : World} {A : Around} {E : Value → Shared → Prop} {s : Shared} {R : Result → Shared → Prop}
end
namespace F2
end F2
section
variable {prog : Program} {w : World} {A : Around} {E : Value → Shared → Prop} {s : Shared} {R : Result → Shared → Prop}
end
end DL

/- part -/
set_option Elab.async false
set_option linter.all false
set_option maxRecDepth 100000
set_option maxHeartbeats 1000000
namespace DL
open PySem PySem.Spec PyProof.Rows L2
section
variable {M : Mx} {W : WX} {X : Cx} {F H F' H' F1 H1 : Hp} {σ : L2.St} {s : Shared} {h' : Heap} {pins : List (Addr × Obj)}
end
section
variable {P : Program} {w : World} {base : Heap} {N : List Str} {sc : Scope} {j : Nat} {M : Mx} {W : WX} {X : Cx} {F H F' H' F1 H1 : Hp} {σ : L2.St} {s : Shared} {h' : Heap} {pins : List (Addr × Obj)}
variable {a b c e : Expr} {ma mb mc m : DM RV} {es : List Expr} {pos p p2 q : Pos} {ta tb : TE}
end
end DL

/- part -/
set_option Elab.async false
set_option linter.all false
set_option maxRecDepth 100000
set_option maxHeartbeats 1000000
namespace DL
open PySem PySem.Spec PyProof.Rows L2
def tI (n : Int) : Str := Str.ofString (toString n)
section
variable {ρ : SE} {Q : RV → SE → Prop} {E : Exc → SE → Prop} {m : DM RV} {ms : List (DM RV)} {acc y : Str}
end
end DL

/- part -/
set_option Elab.async false
set_option linter.all false
set_option maxRecDepth 100000
set_option maxHeartbeats 1000000
namespace DL
open PySem PySem.Spec PyProof.Rows L2
section
variable {X : Cx} {pins : List (Addr × Obj)} {σ : L2.St} {H HZ : Hp} {s s1 : Shared}
end
end DL

/- part -/
set_option Elab.async false
set_option linter.all false
set_option maxRecDepth 100000
set_option maxHeartbeats 1000000
namespace DL
open PySem PySem.Spec PyProof.Rows L2
section
variable {X : Cx}
end
section
variable {P : Program} {w : World} {base : Heap} {N : List Str} {sc : Scope} {j : Nat}
variable {M : Mx} {W : WX} {X : Cx} {F H F' H' F1 H1 F2 H2 H0 : Hp} {σ σ1 : L2.St} {ρ ρ1 ρ2 : SE}
end
end DL

/- part -/
set_option Elab.async false
set_option linter.all false
set_option maxRecDepth 100000
set_option maxHeartbeats 1000000
namespace DL
open PySem PySem.Spec PyProof.Rows L2
section
variable {M : Model} {A : Around} {E : Value → Shared → Prop} {s : Shared} {qual : Str} {params : Arguments} {body : Expr} {scope : Scope} {env : Env} {c P T : Addr} {ps : Array Value} {pos : Pos} {firstLine : Nat} {mg : Str → Option Value}
  {clos : List (Str × Addr)} {Q : Value → Shared → Prop}
end
section
variable {X : Cx} {pins : List (Addr × Obj)} {σ : L2.St} {H : Hp} {s : Shared}
end
end DL

/- part -/
set_option Elab.async false
set_option linter.all false
set_option maxRecDepth 100000
set_option maxHeartbeats 1000000
namespace DL
open PySem PySem.Spec PyProof.Rows L2
structure LamD (sc scope : Scope) (a : Str) : Prop where
  kind : scope.kind = .function
  co : scope.isCoroutine = false
  gen : scope.isGenerator = false
  par : scope.names.lookup a = some .local
  own : ∀ y ∈ scope.names, y.2 ≠ .cell ∧ (y.2 = .local → y.1 = a)
  free : ∀ y ∈ scope.names, y.2 = .free → sc.names.lookup y.1 = some .cell ∨ sc.names.lookup y.1 = some .free
theorem LamD.has {X : Cx} {scope : Scope} {a : Str} (L : LamD X.env.scope scope a) (ok : X.Ok) : ∀ y ∈ scope.names, y.2 = .free → ∃ c, X.env.cells.lookup y.1 = some c := fun y hy e => (L.free y hy e).elim (fun k => ok.has _ (.inl k)) fun k => ok.has _ (.inr k)
section
variable {X : Cx} {pins : List (Addr × Obj)} {σ : L2.St} {H HZ : Hp} {s s1 : Shared}
end
end DL

/- part -/
set_option Elab.async false
set_option linter.all false
set_option maxRecDepth 100000
set_option maxHeartbeats 1000000
namespace DL
open PySem PySem.Spec PyProof.Rows L2
section
variable {X : Cx}
end
section
variable {P : Program} {w : World} {base : Heap} {N : List Str} {sc : Scope} {j : Nat}
variable {M : Mx} {W : WX} {X : Cx} {F H F' H' F1 H1 F2 H2 H0 : Hp} {σ σ1 : L2.St} {ρ ρ1 ρ2 : SE}
end
end DL

/- part -/
set_option Elab.async false
set_option linter.all false
set_option maxRecDepth 100000
set_option maxHeartbeats 1000000
namespace DL
open PySem PySem.Spec PyProof.Rows L2
section
variable {α : Type} {ρ : SE} {Q : List D → SE → Prop} {E : Exc → SE → Prop} {vs : List Nat} {gm : D → SE → R Unit} {mt : DM Bool} {me : DM RV} {ds : List D}
end
end DL

/- part -/
set_option Elab.async false
set_option linter.all false
set_option maxRecDepth 100000
set_option maxHeartbeats 1000000
namespace DL
open PySem PySem.Spec PyProof.Rows L2
section
variable {P : Program} {w : World} {base : Heap} {N : List Str} {sc : Scope} {j : Nat} {M : Mx} {W : WX} {X : Cx} {F H F' H' F1 H1 : Hp} {σ : L2.St} {ρ ρ1 : SE}
variable {e : Expr} {m : DM RV} {p pos : Pos}
end
section
variable {ρ : SE} {g : List D → List D → Option (D × List D)} {m : DM RV} {ds : List D}
end
end DL

/- part -/
set_option Elab.async false
set_option linter.all false
set_option maxRecDepth 100000
set_option maxHeartbeats 1000000
namespace DL
open PySem PySem.Spec PyProof.Rows L2
section
variable {P : Program} {w : World} {base : Heap} {N : List Str} {sc : Scope} {j : Nat} {M : Mx} {W : WX} {X : Cx} {m : DM RV}
end
end DL

/- part -/
set_option Elab.async false
set_option linter.all false
set_option maxRecDepth 100000
set_option maxHeartbeats 4000000
namespace DL
open PySem PySem.Spec PyProof.Rows L2
def SqK (K : PySem.W.Frag) (f : Bool) (H : Hp) (a : Addr) (xs : List V) : Prop := match f with
  | true => SqT K H a xs
  | false => SqL K H a xs
def IkAt (f : Bool) (h : Heap) (it a : Addr) (i : Nat) : Prop := match f with
  | true => h.IsTupleIter it a i
  | false => h.IsListIter it a i
def IkOf (f : Bool) (h : Heap) (a : Addr) (us : Array Value) : Prop := match f with
  | true => h.IsTuple a us
  | false => h.IsList a us
def IkOb (f : Bool) (a : Addr) : Obj := match f with
  | true => { cls := .type "tuple_iterator", data := .fields #[.ref a, .int 0 0] }
  | false => { cls := .type "list_iterator", data := .fields #[.ref a, .int 0 0] }
section
variable {P : Program} {w : World} {A : Around} {h h' : Heap} {it l a b : Addr} {f g : Bool} {i : Nat} {us : Array Value}
theorem ik_draws (hh : A.handled = none) (ne : l ≠ it) : Draws P w A it [it, l] us.size (fun i v => us[i]? = some v) (fun i h => IkAt f h it l i ∧ IkOf f h l us) := match f with
  | true => Draws.tuple hh it l ne us
  | false => Draws.list hh it l ne us
theorem ik_begins : Begins (.ref l) (IkOb f l) (fun h => IkOf f h l us) := match f with
  | true => begins_tuple l us
  | false => begins_list l us
theorem ik_first (e : h.get? it = some (IkOb f l)) : IkAt f h it l 0 := match f, e with
  | true, e => ⟨_, e, rfl, rfl⟩
  | false, e => ⟨_, e, rfl, rfl⟩
theorem ik_get (x : IkAt f h it l i) : ∃ o, h.get? it = some o ∧ ∀ v, o.data ≠ .cell v := by
  cases f
  all_goals
    obtain ⟨o, e, _, d⟩ := x
    exact ⟨o, e, fun v z => by
      rw [d] at z
      cases z⟩
theorem ik_keep (x : IkAt f h it l i) (k : ∀ o, h.get? it = some o → h'.get? it = some o) : IkAt f h' it l i := match f, x with
  | true, x => x.at k
  | false, x => x.at k
theorem ik_of (x : IkOf f h l us) (k : ∀ o, h.get? l = some o → h'.get? l = some o) : IkOf f h' l us := match f, x with
  | true, x => x.at k
  | false, x => x.at k
theorem ik_stop (hh : A.handled = none) (e : us[i]? = none) : Draws P w A it [it, l] i (fun _ _ => True) (fun j h => j = i ∧ IkAt f h it l i ∧ IkOf f h l us) where
  live := fun _ _ st => by
    obtain ⟨o, g, _⟩ := ik_get st.2.1
    exact ⟨o, g⟩
  frame := fun _ _ _ st hk => ⟨st.1, ik_keep st.2.1 fun o g => hk it List.mem_cons_self o g, ik_of st.2.2 fun o g => hk l (List.mem_cons_of_mem _ List.mem_cons_self) o g⟩
  item := fun j s Q E lt st => absurd st.1 (Nat.ne_of_lt lt)
  done := fun s Q E st want => by
    obtain ⟨_, st1, st2⟩ := st
    cases f
    · exact wpAny_nextOf_list_end hh st1 st2 e want
    · exact wpAny_nextOf_tuple_end hh st1 st2 e want
theorem ik_any (hh : A.handled = none) (ne : l ≠ it) (us : Array Value) (i : Nat) : ∃ n Pd St, Draws P w A it [it, l] n Pd St ∧ (∀ h, IkAt f h it l i → IkOf f h l us → St i h) ∧ i ≤ n ∧ (us[i]? = none → i = n) := by
  cases e : us[i]? with
  | none => exact ⟨_, _, _, ik_stop (f := f) (l := l) hh e, fun h x y => ⟨rfl, x, y⟩, Nat.le_refl _, fun _ => rfl⟩
  | some v => exact ⟨_, _, _, ik_draws (f := f) hh ne, fun h x y => ⟨x, y⟩, Nat.le_of_lt (Array.getElem?_eq_some_iff.mp e).1, fun z => nomatch z⟩
end
section
variable {X : Cx} {pins : List (Addr × Obj)} {σ : L2.St} {H : Hp} {s : Shared} {a b : Addr} {f g : Bool} {xs ys : List V}
theorem sqK_inv (I : Inv X pins σ H s) (q : SqK X.K f H a xs) : ∃ us : List Value, Vals xs us ∧ IkOf f s.heap a us.toArray ∧ a < s.heap.objs.size := by
  cases f
  · obtain ⟨us, r, p, _⟩ := I.list q
    exact ⟨us, r, p.isList, p.lt⟩
  · obtain ⟨us, r, p, _⟩ := I.tuple q
    obtain ⟨o, e, _⟩ := id p
    exact ⟨us, r, p, Heap.lt_size e⟩
theorem sqK_inj (I : Inv X pins σ H s) (q1 : SqK X.K f H a xs) (q2 : SqK X.K f H a ys) : xs = ys := by
  cases f
  · exact I.list_inj q1 q2
  · exact I.tuple_inj q1 q2
end
def ItzM (K : PySem.W.Frag) (f g : Bool) (a b : Addr) : It where
  go := fun i H => ∃ (xs ys : List V) (x y : V), (SqK K f H a xs ∧ xs[i]? = some x) ∧ SqK K g H b ys ∧ ys[i]? = some y
  yld := fun i H v H' => ∃ T x y, (v = .ref T ∧ H T = none ∧ H' = upd H T (.tup [x, y])) ∧ (∀ xs, SqK K f H a xs → xs[i]? = some x) ∧ ∀ ys, SqK K g H b ys → ys[i]? = some y
  stop := fun i H => ∃ xs ys : List V, (SqK K f H a xs ∧ SqK K g H b ys) ∧ (xs.length ≤ i ∨ ys.length ≤ i)
theorem neA {x y : Nat} (h : x < y ∨ y < x) : ¬ (@Eq Addr x y) := fun e => by
  have e2 : @Eq Nat x y := e
  omega
theorem niA {x y z : Nat} (h1 : x < y ∨ y < x) (h2 : x < z ∨ z < x) : ¬ (@Membership.mem Addr (List Addr) _ [y, z] x) := fun m => by
  rcases List.mem_cons.mp m with e | m
  · exact neA h1 e
  · exact neA h2 (List.mem_singleton.mp m)
theorem sep_new (n a b : Nat) (h1 : a < n) (h2 : b < n) : ZipSep2 (n + 4) (n + 2) (n + 3) n (n + 1) [n, a] [n + 1, b] where
  TIz := neA (by omega)
  TOz := neA (by omega)
  TITO := neA (by omega)
  TIi1 := neA (by omega)
  mem1 := List.mem_cons_self
  zf1 := niA (by omega) (by omega)
  Tf1 := niA (by omega) (by omega)
  TIi2 := neA (by omega)
  mem2 := List.mem_cons_self
  zf2 := niA (by omega) (by omega)
  Tf2 := niA (by omega) (by omega)
  sep1_2 := niA (by omega) (by omega)
  sep2_1 := niA (by omega) (by omega)
structure ZmSt (f g : Bool) (z ti to j1 j2 a b : Addr) (i : Nat) (h : Heap) : Prop where
  z : IsZip h z ti to .none
  ti : IsTupOf2 h ti (.ref j1) (.ref j2)
  to : ∃ u v, IsTupOf2 h to u v
  a : IkAt f h j1 a i
  b : IkAt g h j2 b i
theorem in5 {c z ti to j1 j2 : Addr} (h : c ∈ [z, ti, to, j1, j2]) : c = z ∨ c = ti ∨ c = to ∨ c = j1 ∨ c = j2 := by simpa using h
theorem nin5 {c z ti to j1 j2 : Addr} (h : c ∉ [z, ti, to, j1, j2]) : c ≠ z ∧ c ≠ to ∧ c ≠ j1 ∧ c ≠ j2 := by
  simp only [List.mem_cons, List.not_mem_nil, or_false, not_or] at h
  exact ⟨h.1, h.2.2.1, h.2.2.2.1, h.2.2.2.2⟩
theorem turn_zm {P : Program} {w : World} {K : PySem.W.Frag} {elts : List Expr} {kk : Nat} {tpos : Pos} {a b z ti to j1 j2 : Addr} {f g : Bool} (S : ZipSep2 z ti to j1 j2 [j1, a] [j2, b]) (na : a ≠ j1) (nb : b ≠ j2) :
    Turn P w K (.Tuple elts kk tpos) (ItzM K f g a b) [z, ti, to, j1, j2] z (ZmSt f g z ti to j1 j2 a b) where
  mem := List.mem_cons_self
  obj := fun i h st c hc => by
    obtain ⟨_, _, t⟩ := st.to
    rcases in5 hc with e | e | e | e | e <;> rw [e]
    · exact ⟨_, st.z, fun _ q => nomatch q⟩
    · exact ⟨_, st.ti, fun _ q => nomatch q⟩
    · exact ⟨_, t, fun _ q => nomatch q⟩
    · exact ik_get st.a
    · exact ik_get st.b
  keep := fun i h h' st k => by
    obtain ⟨u, v, t⟩ := st.to
    exact ⟨k z (by simp) _ st.z, k ti (by simp) _ st.ti, ⟨u, v, k to (by simp) _ t⟩, ik_keep st.a fun o e => k j1 (by simp) o e, ik_keep st.b fun o e => k j2 (by simp) o e⟩
  item := by
    intro X hP hw hK hc i pins s σ H E I free st hg
    subst hP hw hK
    obtain ⟨xs, ys, x, y, ⟨q1, ex⟩, q2, ey⟩ := hg
    obtain ⟨us, r1, o1, lta⟩ := sqK_inv I q1
    obtain ⟨vs, r2, o2, ltb⟩ := sqK_inv I q2
    obtain ⟨u, eu, ru⟩ := r1.get ex
    obtain ⟨v, ev, rv⟩ := r2.get ey
    obtain ⟨_, _, t⟩ := st.to
    have hd := I.ok.hd hc
    have eu2 : us.toArray[i]? = some u := by simpa using eu
    have ev2 : vs.toArray[i]? = some v := by simpa using ev
    have ltz := Heap.lt_size st.z
    have free0 : H s.heap.objs.size = none := I.hok.fresh (Nat.le_refl _)
    refine wpAny_pyNext_zipD2_item S (ik_draws (A := X.A.in1) (f := f) hd na) (ik_draws (A := X.A.in1) (f := g) hd nb) st.z st.ti t ⟨st.a, o1⟩ ⟨st.b, o2⟩ (Array.getElem?_eq_some_iff.mp eu2).1 (Array.getElem?_eq_some_iff.mp ev2).1 fun x1 x2 h1 tk p1 p2 z1 to1 a1 b1 T1 sz kp => ?_
    rw [eu2] at p1
    rw [ev2] at p2
    cases p1
    cases p2
    refine ⟨_, rfl, wpAny_letOwnedTupleGo_zip (s := { s with heap := h1, toks := tk }) z1 fun h2 z2 sb => ?_⟩
    have all : ∀ c o, c ∉ [z, ti, to, j1, j2] → s.heap.get? c = some o → h2.get? c = some o := fun c o n e => by
      obtain ⟨m1, m2, m3, m4⟩ := nin5 n
      exact (sb.2 c m1).trans (kp c o m1 m2 m3 m4 e)
    have T2 : h2.get? s.heap.objs.size = some { cls := .type "tuple", data := .seq #[u, v] } := (sb.2 _ (Nat.ne_of_gt ltz)).trans T1
    have I2 : Inv X pins σ (upd H s.heap.objs.size (.tup [x, y])) { s with heap := h2, toks := tk } := I.turnedNew all free (Nat.le_refl _) ⟨by
      show 2 ≤ sizeLine
      decide, [u, v], .cons ru (.cons rv .nil), _, T2, rfl, _, rfl⟩
    refine ⟨.ref s.heap.objs.size, _, I2, rfl, ⟨_, x, y, ⟨rfl, free0, rfl⟩, fun l hl => ?_, fun l hl => ?_⟩, ⟨z2, ?_, ⟨u, v, (sb.2 _ S.TOz).trans to1⟩, ?_, ?_⟩, fun c hc => ?_⟩
    · rw [sqK_inj I hl q1]
      exact ex
    · rw [sqK_inj I hl q2]
      exact ey
    · exact (sb.2 _ S.TIz).trans (kp _ _ S.TIz S.TITO S.TIi1 S.TIi2 st.ti)
    · exact ik_keep a1.1 fun o e => (sb.2 _ S.zi1.symm).trans e
    · exact ik_keep b1.1 fun o e => (sb.2 _ S.zi2.symm).trans e
    · have lt : c < s.heap.objs.size := by
        rcases in5 hc with e | e | e | e | e <;> rw [e]
        · exact ltz
        · exact Heap.lt_size st.ti
        · exact Heap.lt_size t
        · obtain ⟨_, e1, _⟩ := ik_get st.a
          exact Heap.lt_size e1
        · obtain ⟨_, e1, _⟩ := ik_get st.b
          exact Heap.lt_size e1
      rw [upd_ne (Nat.ne_of_lt lt)]
      exact (free c hc).1
  done := by
    intro X hP hw hK hc i pins s σ H E I free st hg
    subst hP hw hK
    obtain ⟨xs, ys, ⟨q1, q2⟩, ends⟩ := hg
    obtain ⟨us, r1, o1, lta⟩ := sqK_inv I q1
    obtain ⟨vs, r2, o2, ltb⟩ := sqK_inv I q2
    obtain ⟨_, _, t⟩ := st.to
    obtain ⟨n1, P1, S1, D1, s1, l1, e1⟩ := ik_any (P := X.prog) (w := X.w) (A := X.A.in1) (f := f) (I.ok.hd hc) na us.toArray i
    obtain ⟨n2, P2, S2, D2, s2, l2, e2⟩ := ik_any (P := X.prog) (w := X.w) (A := X.A.in1) (f := g) (I.ok.hd hc) nb vs.toArray i
    refine wpAny_pyNext_zipD2_end S D1 D2 st.z st.ti t (s1 _ st.a o1) (s2 _ st.b o2) l1 l2 (ends.imp (fun q => e1 ?_) fun q => e2 ?_) fun h1 tk kp => ⟨rfl, I.turnedL (fun c o n e => ?_) free⟩
    · have := r1.length
      simp
      omega
    · have := r2.length
      simp
      omega
    · obtain ⟨m1, m2, m3, m4⟩ := nin5 n
      exact kp c o m1 m2 m3 m4 e
  self := fun _ _ _ _ _ st q => wpAny_pyIter_zip st.z q
def iZipM (K : PySem.W.Frag) (ta : TA) : TI := fun σ H R => ta σ H fun vs H1 => ∃ f g a b xs ys, vs = [V.ref a, V.ref b] ∧ (SqK K f H1 a xs ∧ SqK K g H1 b ys) ∧ R (ItzM K f g a b) H1
theorem pi_zipM {X : Cx} {e e2 : Expr} {ta : TA} {p q tpos : Pos} {elts : List Expr} {kk : Nat} (hg : Gl X "zip") (hm : X.mg "zip" = none) (ha : PA X [e, e2] ta)
    (hs : starEach [e, e2] X.env = (false, eval e X.env) :: starEach [e2] X.env := by rfl) (pl : (backTo q (starEach [e2] X.env)).any (·.1) = false := by rfl) :
    PI X (.Tuple elts kk tpos) (.Call (.Name "zip" p) [e, e2] [] q) (iZipM X.K ta) := by
  refine ⟨fun pins s σ H R I h => ?_⟩
  refine Call_ (ld_blt I hg hm boot_zip (callWith_type1 (thn (ha.run q pins s σ H _ I h) fun us s1 ⟨vs, G, J, rel, f, g, a, b, xs, ys, ev, ⟨q1, q2⟩, want⟩ => ?_) hs pl))
  subst ev
  cases rel with
  | cons ra rel =>
    cases rel with
    | cons rb rel =>
      cases rel
      cases ra
      cases rb
      obtain ⟨l1, r1, o1, lta⟩ := sqK_inv J q1
      obtain ⟨l2, r2, o2, ltb⟩ := sqK_inv J q2
      refine zip_begins2 (ik_begins (f := f)) (ik_begins (f := g)) o1 o2 fun h1 z ti to j1 j2 sz kp => wpAny_pyIter_zip z ?_
      have J2 : Inv X pins σ G { s1 with heap := h1 } := J.kept kp
      refine ⟨_, [s1.heap.objs.size + 4, s1.heap.objs.size + 2, s1.heap.objs.size + 3, s1.heap.objs.size, s1.heap.objs.size + 1], _, _, G, rfl, J2, turn_zm (f := f) (g := g) (sep_new s1.heap.objs.size a b lta ltb) (Nat.ne_of_lt lta) (Nat.ne_of_lt (Nat.lt_succ_of_lt ltb)), ⟨z, ti, ⟨_, _, to⟩, ik_first j1, ik_first j2⟩, fun c hc => ?_, want⟩
      have le : s1.heap.objs.size ≤ c := by
        rcases in5 hc with e | e | e | e | e <;> rw [e]
        · exact Nat.le_add_right _ _
        · exact Nat.le_add_right _ _
        · exact Nat.le_add_right _ _
        · exact Nat.le_refl _
        · exact Nat.le_add_right _ _
      exact J.fpOk le (J.hok.fresh le)
def zipU (as : List AV) (ρ : SE) : R (List D) := match as with
  | [.d x, .d y] => (match unl x, unl y with
    | .lst xs, .lst ys => .ok (zipD xs ys) ρ
    | .tup xs, .tup ys => .ok (zipD xs ys) ρ
    | .tup xs, .lst ys => .ok (zipD xs ys) ρ
    | .lst xs, .tup ys => .ok (zipD xs ys) ρ
    | _, _ => .bad)
  | _ => .bad
def iZipU (ms : DM (List AV)) : DM (List D) := fun ρ => (ms ρ).bind zipU
section
variable {P : Program} {w : World} {base : Heap} {N : List Str} {sc : Scope} {j : Nat}
variable {M : Mx} {W : WX} {X : Cx} {F H F' H' F1 H1 : Hp} {σ : L2.St} {ρ ρ1 : SE}
variable {a b : Expr} {ms : DM (List AV)} {p pos : Pos}
def HeldK (M : Mx) (f : Bool) (F : Hp) (a : Addr) (vs : List V) : Prop := ∀ F2 H2, Same F F2 → SubF F2 H2 → SqK M.K f H2 a vs
theorem held_of {v : V} {d : D} {ds : List D} (r : Rep M F v d) (e : unl d = .lst ds) : ∃ a vs, v = .ref a ∧ HeldK M false F a vs ∧ Reps M F vs ds := by
  cases r with
  | lst h1 h2 =>
    cases e
    exact ⟨_, _, rfl, fun F2 H2 sa sub => .inl (.inl (sub.go _ _ (sa _ _ h1))), h2⟩
  | tl h1 h2 =>
    cases e
    exact ⟨_, _, rfl, fun F2 H2 sa sub => .inl (.inl (sub.bk _ _ _ (sa _ _ h1))), h2⟩
  | _ => cases e
theorem held_tup {v : V} {d : D} {ds : List D} (r : Rep M F v d) (e : unl d = .tup ds) : ∃ a vs, v = .ref a ∧ HeldK M true F a vs ∧ Reps M F vs ds := by
  cases r with
  | tup h1 h2 =>
    cases e
    exact ⟨_, _, rfl, fun F2 H2 sa sub => sub.sqT (same_sqT sa h1), h2⟩
  | _ => cases e
theorem it_zipH {f g : Bool} {a b : Addr} {vs ws : List V} {xs ys : List D} (h1 : HeldK M f F a vs) (h2 : HeldK M g F b ws) (r1 : Reps M F vs xs) (r2 : Reps M F ws ys) : ItOk M (ItzM M.K f g a b) F (zipD xs ys) := fun i F2 H2 sa sub => by
  have g1 := h1 F2 H2 sa sub
  have g2 := h2 F2 H2 sa sub
  refine ⟨fun d hd => ?_, fun hl => ⟨vs, ws, ⟨g1, g2⟩, ?_⟩⟩
  · obtain ⟨x, y, e1, e2, rfl⟩ := zip_get hd
    obtain ⟨v, q1, q2⟩ := r1.get e1
    obtain ⟨w, q3, q4⟩ := r2.get e2
    refine ⟨⟨vs, ws, v, w, ⟨g1, q1⟩, g2, q3⟩, fun z H' y => ?_⟩
    obtain ⟨T, x1, x2, ⟨e3, nT, e4⟩, f1, f2⟩ := y
    subst e3 e4
    have e5 := f1 _ g1
    have e6 := f2 _ g2
    rw [q1] at e5
    rw [q3] at e6
    cases e5
    cases e6
    exact ⟨_, Alc.newF' sub nT, Rep.tup (.inl (.inl upd_same)) (.cons ((q2.up sa).up (same_upd (sub.free nT))) (.cons ((q4.up sa).up (same_upd (sub.free nT))) .nil))⟩
  · unfold zipD at hl
    rw [List.length_zipWith] at hl
    rw [r1.length, r2.length]
    omega
theorem di_zipU {elts : List Expr} {kk : Nat} {tpos : Pos} (C : CxD P w base M N sc j X W) (h : GlOk sc "zip") (hm : M.mg "zip" = none) (ha : DA X M W [a, b] ms) (hs : starEach [a, b] X.env = (false, eval a X.env) :: starEach [b] X.env := by rfl) (hpl : (backTo pos (starEach [b] X.env)).any (·.1) = false := by rfl) :
    DI X M W (.Tuple elts kk tpos) (.Call (.Name "zip" p) [a, b] [] pos) (iZipU ms) := by
  obtain ⟨t, pa, qa⟩ := ha
  refine ⟨_, pi_zipM (C.glo h) (by rw [← C.hM]; exact hm) pa hs hpl, fun σ H F ρ Q sm h => ?_⟩
  refine qa σ H F ρ _ sm (PostA.goI h fun as ρ1 F1 H1 vs e0 st1 sm1 ok1 h1 => ?_)
  clear e0
  rw [← C.hK]
  unfold zipU at h1
  split at h1
  · cases ok1 with
    | cons r1 ok1 =>
      cases ok1 with
      | cons r2 ok1 =>
        cases ok1
        rename_i dx dy v w
        have r1 : Rep M F1 v dx := r1
        have r2 : Rep M F1 w dy := r2
        split at h1
        · rename_i xs ys e1 e2
          obtain ⟨a1, vs1, rfl, q1, q2⟩ := held_of r1 e1
          obtain ⟨a2, vs2, rfl, q3, q4⟩ := held_of r2 e2
          exact ⟨false, false, _, _, _, _, rfl, ⟨q1 F1 H1 (Same.refl _) sm1.sub, q3 F1 H1 (Same.refl _) sm1.sub⟩, h1 F1 H1 _ st1 sm1 (it_zipH q1 q3 q2 q4)⟩
        · rename_i xs ys e1 e2
          obtain ⟨a1, vs1, rfl, q1, q2⟩ := held_tup r1 e1
          obtain ⟨a2, vs2, rfl, q3, q4⟩ := held_tup r2 e2
          exact ⟨true, true, _, _, _, _, rfl, ⟨q1 F1 H1 (Same.refl _) sm1.sub, q3 F1 H1 (Same.refl _) sm1.sub⟩, h1 F1 H1 _ st1 sm1 (it_zipH q1 q3 q2 q4)⟩
        · rename_i xs ys e1 e2
          obtain ⟨a1, vs1, rfl, q1, q2⟩ := held_tup r1 e1
          obtain ⟨a2, vs2, rfl, q3, q4⟩ := held_of r2 e2
          exact ⟨true, false, _, _, _, _, rfl, ⟨q1 F1 H1 (Same.refl _) sm1.sub, q3 F1 H1 (Same.refl _) sm1.sub⟩, h1 F1 H1 _ st1 sm1 (it_zipH q1 q3 q2 q4)⟩
        · rename_i xs ys e1 e2
          obtain ⟨a1, vs1, rfl, q1, q2⟩ := held_of r1 e1
          obtain ⟨a2, vs2, rfl, q3, q4⟩ := held_tup r2 e2
          exact ⟨false, true, _, _, _, _, rfl, ⟨q1 F1 H1 (Same.refl _) sm1.sub, q3 F1 H1 (Same.refl _) sm1.sub⟩, h1 F1 H1 _ st1 sm1 (it_zipH q1 q3 q2 q4)⟩
        · exact h1.elim
  · exact h1.elim
end
section
variable {ρ : SE} {xs ys : List D} {x y : D}
@[simp ↓, simp] theorem u_iZipU {ms : DM (List AV)} {c : Cont (List D)} : Wp (iZipU ms ρ) = Wp ((ms ρ).bind zipU : R (List D)) := rfl
@[simp] theorem zipU_lst : zipU [.d (.lst xs), .d (.lst ys)] ρ = .ok (zipD xs ys) ρ := rfl
@[simp] theorem zipU_tup : zipU [.d (.tup xs), .d (.tup ys)] ρ = .ok (zipD xs ys) ρ := rfl
@[simp] theorem zipU_tl : zipU [.d (.tup xs), .d (.lst ys)] ρ = .ok (zipD xs ys) ρ := rfl
@[simp] theorem zipU_lt : zipU [.d (.lst xs), .d (.tup ys)] ρ = .ok (zipD xs ys) ρ := rfl
end
end DL

/- part -/
set_option Elab.async false
set_option linter.all false
set_option maxRecDepth 100000
set_option maxHeartbeats 1000000
namespace DL
open PySem PySem.Spec PyProof.Rows L2
end DL

/- part -/
set_option Elab.async false
set_option linter.all false
set_option maxRecDepth 100000
set_option maxHeartbeats 1000000
namespace DL
open PySem PySem.Spec PyProof.Rows L2
section
variable {X : Cx} {M : Mx} {W : WX}
end
section
variable {ρ : SE}
end
end DL

/- part -/
set_option Elab.async false
set_option linter.all false
set_option maxRecDepth 100000
set_option maxHeartbeats 1000000
namespace DL
open PySem PySem.Spec PyProof.Rows L2
section
variable {M : Mx} {W : WX} {X : Cx}
end
section
variable {P : Program} {w : World} {base : Heap} {N : List Str} {sc : Scope} {j : Nat} {M : Mx} {W : WX} {X : Cx} {ms : DM (List AV)} {x : Str} {a : Expr} {es : List Expr} {p p' pos : Pos}
end
end DL

/- part -/
set_option Elab.async false
set_option linter.all false
set_option maxRecDepth 100000
set_option maxHeartbeats 1000000
namespace DL
open PySem PySem.Spec PyProof.Rows L2
section
variable {x0 x1 x2 x3 x4 x5 x6 x7 x8 x9 x10 x11 x12 x13 x14 x15 x16 x17 x18 x19 x20 x21 x22 x23 x24 x25 x26 x27 x28 x29 x30 x31 x32 x33 x34 x35 x36 x37 x38 x39 x40 x41 x42 x43 x44 x45 sv : SV} {l : SE}
@[simp] theorem stow_21 (h : Nio x21) : stow (x0 :: x1 :: x2 :: x3 :: x4 :: x5 :: x6 :: x7 :: x8 :: x9 :: x10 :: x11 :: x12 :: x13 :: x14 :: x15 :: x16 :: x17 :: x18 :: x19 :: x20 :: x21 :: l) 21 sv = .ok () (x0 :: x1 :: x2 :: x3 :: x4 :: x5 :: x6 :: x7 :: x8 :: x9 :: x10 :: x11 :: x12 :: x13 :: x14 :: x15 :: x16 :: x17 :: x18 :: x19 :: x20 :: sv :: l) := stow_at rfl h
@[simp] theorem stow_22 (h : Nio x22) : stow (x0 :: x1 :: x2 :: x3 :: x4 :: x5 :: x6 :: x7 :: x8 :: x9 :: x10 :: x11 :: x12 :: x13 :: x14 :: x15 :: x16 :: x17 :: x18 :: x19 :: x20 :: x21 :: x22 :: l) 22 sv = .ok () (x0 :: x1 :: x2 :: x3 :: x4 :: x5 :: x6 :: x7 :: x8 :: x9 :: x10 :: x11 :: x12 :: x13 :: x14 :: x15 :: x16 :: x17 :: x18 :: x19 :: x20 :: x21 :: sv :: l) := stow_at rfl h
@[simp] theorem stow_23 (h : Nio x23) : stow (x0 :: x1 :: x2 :: x3 :: x4 :: x5 :: x6 :: x7 :: x8 :: x9 :: x10 :: x11 :: x12 :: x13 :: x14 :: x15 :: x16 :: x17 :: x18 :: x19 :: x20 :: x21 :: x22 :: x23 :: l) 23 sv = .ok () (x0 :: x1 :: x2 :: x3 :: x4 :: x5 :: x6 :: x7 :: x8 :: x9 :: x10 :: x11 :: x12 :: x13 :: x14 :: x15 :: x16 :: x17 :: x18 :: x19 :: x20 :: x21 :: x22 :: sv :: l) := stow_at rfl h
@[simp] theorem stow_24 (h : Nio x24) : stow (x0 :: x1 :: x2 :: x3 :: x4 :: x5 :: x6 :: x7 :: x8 :: x9 :: x10 :: x11 :: x12 :: x13 :: x14 :: x15 :: x16 :: x17 :: x18 :: x19 :: x20 :: x21 :: x22 :: x23 :: x24 :: l) 24 sv = .ok () (x0 :: x1 :: x2 :: x3 :: x4 :: x5 :: x6 :: x7 :: x8 :: x9 :: x10 :: x11 :: x12 :: x13 :: x14 :: x15 :: x16 :: x17 :: x18 :: x19 :: x20 :: x21 :: x22 :: x23 :: sv :: l) := stow_at rfl h
@[simp] theorem stow_25 (h : Nio x25) : stow (x0 :: x1 :: x2 :: x3 :: x4 :: x5 :: x6 :: x7 :: x8 :: x9 :: x10 :: x11 :: x12 :: x13 :: x14 :: x15 :: x16 :: x17 :: x18 :: x19 :: x20 :: x21 :: x22 :: x23 :: x24 :: x25 :: l) 25 sv = .ok () (x0 :: x1 :: x2 :: x3 :: x4 :: x5 :: x6 :: x7 :: x8 :: x9 :: x10 :: x11 :: x12 :: x13 :: x14 :: x15 :: x16 :: x17 :: x18 :: x19 :: x20 :: x21 :: x22 :: x23 :: x24 :: sv :: l) := stow_at rfl h
@[simp] theorem stow_26 (h : Nio x26) : stow (x0 :: x1 :: x2 :: x3 :: x4 :: x5 :: x6 :: x7 :: x8 :: x9 :: x10 :: x11 :: x12 :: x13 :: x14 :: x15 :: x16 :: x17 :: x18 :: x19 :: x20 :: x21 :: x22 :: x23 :: x24 :: x25 :: x26 :: l) 26 sv = .ok () (x0 :: x1 :: x2 :: x3 :: x4 :: x5 :: x6 :: x7 :: x8 :: x9 :: x10 :: x11 :: x12 :: x13 :: x14 :: x15 :: x16 :: x17 :: x18 :: x19 :: x20 :: x21 :: x22 :: x23 :: x24 :: x25 :: sv :: l) := stow_at rfl h
@[simp] theorem stow_27 (h : Nio x27) : stow (x0 :: x1 :: x2 :: x3 :: x4 :: x5 :: x6 :: x7 :: x8 :: x9 :: x10 :: x11 :: x12 :: x13 :: x14 :: x15 :: x16 :: x17 :: x18 :: x19 :: x20 :: x21 :: x22 :: x23 :: x24 :: x25 :: x26 :: x27 :: l) 27 sv = .ok () (x0 :: x1 :: x2 :: x3 :: x4 :: x5 :: x6 :: x7 :: x8 :: x9 :: x10 :: x11 :: x12 :: x13 :: x14 :: x15 :: x16 :: x17 :: x18 :: x19 :: x20 :: x21 :: x22 :: x23 :: x24 :: x25 :: x26 :: sv :: l) := stow_at rfl h
@[simp] theorem stow_28 (h : Nio x28) : stow (x0 :: x1 :: x2 :: x3 :: x4 :: x5 :: x6 :: x7 :: x8 :: x9 :: x10 :: x11 :: x12 :: x13 :: x14 :: x15 :: x16 :: x17 :: x18 :: x19 :: x20 :: x21 :: x22 :: x23 :: x24 :: x25 :: x26 :: x27 :: x28 :: l) 28 sv = .ok () (x0 :: x1 :: x2 :: x3 :: x4 :: x5 :: x6 :: x7 :: x8 :: x9 :: x10 :: x11 :: x12 :: x13 :: x14 :: x15 :: x16 :: x17 :: x18 :: x19 :: x20 :: x21 :: x22 :: x23 :: x24 :: x25 :: x26 :: x27 :: sv :: l) := stow_at rfl h
@[simp] theorem stow_29 (h : Nio x29) : stow (x0 :: x1 :: x2 :: x3 :: x4 :: x5 :: x6 :: x7 :: x8 :: x9 :: x10 :: x11 :: x12 :: x13 :: x14 :: x15 :: x16 :: x17 :: x18 :: x19 :: x20 :: x21 :: x22 :: x23 :: x24 :: x25 :: x26 :: x27 :: x28 :: x29 :: l) 29 sv = .ok () (x0 :: x1 :: x2 :: x3 :: x4 :: x5 :: x6 :: x7 :: x8 :: x9 :: x10 :: x11 :: x12 :: x13 :: x14 :: x15 :: x16 :: x17 :: x18 :: x19 :: x20 :: x21 :: x22 :: x23 :: x24 :: x25 :: x26 :: x27 :: x28 :: sv :: l) := stow_at rfl h
@[simp] theorem stow_30 (h : Nio x30) : stow (x0 :: x1 :: x2 :: x3 :: x4 :: x5 :: x6 :: x7 :: x8 :: x9 :: x10 :: x11 :: x12 :: x13 :: x14 :: x15 :: x16 :: x17 :: x18 :: x19 :: x20 :: x21 :: x22 :: x23 :: x24 :: x25 :: x26 :: x27 :: x28 :: x29 :: x30 :: l) 30 sv = .ok () (x0 :: x1 :: x2 :: x3 :: x4 :: x5 :: x6 :: x7 :: x8 :: x9 :: x10 :: x11 :: x12 :: x13 :: x14 :: x15 :: x16 :: x17 :: x18 :: x19 :: x20 :: x21 :: x22 :: x23 :: x24 :: x25 :: x26 :: x27 :: x28 :: x29 :: sv :: l) := stow_at rfl h
@[simp] theorem stow_31 (h : Nio x31) : stow (x0 :: x1 :: x2 :: x3 :: x4 :: x5 :: x6 :: x7 :: x8 :: x9 :: x10 :: x11 :: x12 :: x13 :: x14 :: x15 :: x16 :: x17 :: x18 :: x19 :: x20 :: x21 :: x22 :: x23 :: x24 :: x25 :: x26 :: x27 :: x28 :: x29 :: x30 :: x31 :: l) 31 sv = .ok () (x0 :: x1 :: x2 :: x3 :: x4 :: x5 :: x6 :: x7 :: x8 :: x9 :: x10 :: x11 :: x12 :: x13 :: x14 :: x15 :: x16 :: x17 :: x18 :: x19 :: x20 :: x21 :: x22 :: x23 :: x24 :: x25 :: x26 :: x27 :: x28 :: x29 :: x30 :: sv :: l) := stow_at rfl h
@[simp] theorem stow_32 (h : Nio x32) : stow (x0 :: x1 :: x2 :: x3 :: x4 :: x5 :: x6 :: x7 :: x8 :: x9 :: x10 :: x11 :: x12 :: x13 :: x14 :: x15 :: x16 :: x17 :: x18 :: x19 :: x20 :: x21 :: x22 :: x23 :: x24 :: x25 :: x26 :: x27 :: x28 :: x29 :: x30 :: x31 :: x32 :: l) 32 sv = .ok () (x0 :: x1 :: x2 :: x3 :: x4 :: x5 :: x6 :: x7 :: x8 :: x9 :: x10 :: x11 :: x12 :: x13 :: x14 :: x15 :: x16 :: x17 :: x18 :: x19 :: x20 :: x21 :: x22 :: x23 :: x24 :: x25 :: x26 :: x27 :: x28 :: x29 :: x30 :: x31 :: sv :: l) := stow_at rfl h
@[simp] theorem stow_33 (h : Nio x33) : stow (x0 :: x1 :: x2 :: x3 :: x4 :: x5 :: x6 :: x7 :: x8 :: x9 :: x10 :: x11 :: x12 :: x13 :: x14 :: x15 :: x16 :: x17 :: x18 :: x19 :: x20 :: x21 :: x22 :: x23 :: x24 :: x25 :: x26 :: x27 :: x28 :: x29 :: x30 :: x31 :: x32 :: x33 :: l) 33 sv = .ok () (x0 :: x1 :: x2 :: x3 :: x4 :: x5 :: x6 :: x7 :: x8 :: x9 :: x10 :: x11 :: x12 :: x13 :: x14 :: x15 :: x16 :: x17 :: x18 :: x19 :: x20 :: x21 :: x22 :: x23 :: x24 :: x25 :: x26 :: x27 :: x28 :: x29 :: x30 :: x31 :: x32 :: sv :: l) := stow_at rfl h
@[simp] theorem stow_34 (h : Nio x34) : stow (x0 :: x1 :: x2 :: x3 :: x4 :: x5 :: x6 :: x7 :: x8 :: x9 :: x10 :: x11 :: x12 :: x13 :: x14 :: x15 :: x16 :: x17 :: x18 :: x19 :: x20 :: x21 :: x22 :: x23 :: x24 :: x25 :: x26 :: x27 :: x28 :: x29 :: x30 :: x31 :: x32 :: x33 :: x34 :: l) 34 sv = .ok () (x0 :: x1 :: x2 :: x3 :: x4 :: x5 :: x6 :: x7 :: x8 :: x9 :: x10 :: x11 :: x12 :: x13 :: x14 :: x15 :: x16 :: x17 :: x18 :: x19 :: x20 :: x21 :: x22 :: x23 :: x24 :: x25 :: x26 :: x27 :: x28 :: x29 :: x30 :: x31 :: x32 :: x33 :: sv :: l) := stow_at rfl h
@[simp] theorem stow_35 (h : Nio x35) : stow (x0 :: x1 :: x2 :: x3 :: x4 :: x5 :: x6 :: x7 :: x8 :: x9 :: x10 :: x11 :: x12 :: x13 :: x14 :: x15 :: x16 :: x17 :: x18 :: x19 :: x20 :: x21 :: x22 :: x23 :: x24 :: x25 :: x26 :: x27 :: x28 :: x29 :: x30 :: x31 :: x32 :: x33 :: x34 :: x35 :: l) 35 sv = .ok () (x0 :: x1 :: x2 :: x3 :: x4 :: x5 :: x6 :: x7 :: x8 :: x9 :: x10 :: x11 :: x12 :: x13 :: x14 :: x15 :: x16 :: x17 :: x18 :: x19 :: x20 :: x21 :: x22 :: x23 :: x24 :: x25 :: x26 :: x27 :: x28 :: x29 :: x30 :: x31 :: x32 :: x33 :: x34 :: sv :: l) := stow_at rfl h
@[simp] theorem stow_36 (h : Nio x36) : stow (x0 :: x1 :: x2 :: x3 :: x4 :: x5 :: x6 :: x7 :: x8 :: x9 :: x10 :: x11 :: x12 :: x13 :: x14 :: x15 :: x16 :: x17 :: x18 :: x19 :: x20 :: x21 :: x22 :: x23 :: x24 :: x25 :: x26 :: x27 :: x28 :: x29 :: x30 :: x31 :: x32 :: x33 :: x34 :: x35 :: x36 :: l) 36 sv = .ok () (x0 :: x1 :: x2 :: x3 :: x4 :: x5 :: x6 :: x7 :: x8 :: x9 :: x10 :: x11 :: x12 :: x13 :: x14 :: x15 :: x16 :: x17 :: x18 :: x19 :: x20 :: x21 :: x22 :: x23 :: x24 :: x25 :: x26 :: x27 :: x28 :: x29 :: x30 :: x31 :: x32 :: x33 :: x34 :: x35 :: sv :: l) := stow_at rfl h
@[simp] theorem stow_37 (h : Nio x37) : stow (x0 :: x1 :: x2 :: x3 :: x4 :: x5 :: x6 :: x7 :: x8 :: x9 :: x10 :: x11 :: x12 :: x13 :: x14 :: x15 :: x16 :: x17 :: x18 :: x19 :: x20 :: x21 :: x22 :: x23 :: x24 :: x25 :: x26 :: x27 :: x28 :: x29 :: x30 :: x31 :: x32 :: x33 :: x34 :: x35 :: x36 :: x37 :: l) 37 sv = .ok () (x0 :: x1 :: x2 :: x3 :: x4 :: x5 :: x6 :: x7 :: x8 :: x9 :: x10 :: x11 :: x12 :: x13 :: x14 :: x15 :: x16 :: x17 :: x18 :: x19 :: x20 :: x21 :: x22 :: x23 :: x24 :: x25 :: x26 :: x27 :: x28 :: x29 :: x30 :: x31 :: x32 :: x33 :: x34 :: x35 :: x36 :: sv :: l) := stow_at rfl h
@[simp] theorem stow_38 (h : Nio x38) : stow (x0 :: x1 :: x2 :: x3 :: x4 :: x5 :: x6 :: x7 :: x8 :: x9 :: x10 :: x11 :: x12 :: x13 :: x14 :: x15 :: x16 :: x17 :: x18 :: x19 :: x20 :: x21 :: x22 :: x23 :: x24 :: x25 :: x26 :: x27 :: x28 :: x29 :: x30 :: x31 :: x32 :: x33 :: x34 :: x35 :: x36 :: x37 :: x38 :: l) 38 sv = .ok () (x0 :: x1 :: x2 :: x3 :: x4 :: x5 :: x6 :: x7 :: x8 :: x9 :: x10 :: x11 :: x12 :: x13 :: x14 :: x15 :: x16 :: x17 :: x18 :: x19 :: x20 :: x21 :: x22 :: x23 :: x24 :: x25 :: x26 :: x27 :: x28 :: x29 :: x30 :: x31 :: x32 :: x33 :: x34 :: x35 :: x36 :: x37 :: sv :: l) := stow_at rfl h
@[simp] theorem stow_39 (h : Nio x39) : stow (x0 :: x1 :: x2 :: x3 :: x4 :: x5 :: x6 :: x7 :: x8 :: x9 :: x10 :: x11 :: x12 :: x13 :: x14 :: x15 :: x16 :: x17 :: x18 :: x19 :: x20 :: x21 :: x22 :: x23 :: x24 :: x25 :: x26 :: x27 :: x28 :: x29 :: x30 :: x31 :: x32 :: x33 :: x34 :: x35 :: x36 :: x37 :: x38 :: x39 :: l) 39 sv = .ok () (x0 :: x1 :: x2 :: x3 :: x4 :: x5 :: x6 :: x7 :: x8 :: x9 :: x10 :: x11 :: x12 :: x13 :: x14 :: x15 :: x16 :: x17 :: x18 :: x19 :: x20 :: x21 :: x22 :: x23 :: x24 :: x25 :: x26 :: x27 :: x28 :: x29 :: x30 :: x31 :: x32 :: x33 :: x34 :: x35 :: x36 :: x37 :: x38 :: sv :: l) := stow_at rfl h
@[simp] theorem stow_40 (h : Nio x40) : stow (x0 :: x1 :: x2 :: x3 :: x4 :: x5 :: x6 :: x7 :: x8 :: x9 :: x10 :: x11 :: x12 :: x13 :: x14 :: x15 :: x16 :: x17 :: x18 :: x19 :: x20 :: x21 :: x22 :: x23 :: x24 :: x25 :: x26 :: x27 :: x28 :: x29 :: x30 :: x31 :: x32 :: x33 :: x34 :: x35 :: x36 :: x37 :: x38 :: x39 :: x40 :: l) 40 sv = .ok () (x0 :: x1 :: x2 :: x3 :: x4 :: x5 :: x6 :: x7 :: x8 :: x9 :: x10 :: x11 :: x12 :: x13 :: x14 :: x15 :: x16 :: x17 :: x18 :: x19 :: x20 :: x21 :: x22 :: x23 :: x24 :: x25 :: x26 :: x27 :: x28 :: x29 :: x30 :: x31 :: x32 :: x33 :: x34 :: x35 :: x36 :: x37 :: x38 :: x39 :: sv :: l) := stow_at rfl h
@[simp] theorem stow_41 (h : Nio x41) : stow (x0 :: x1 :: x2 :: x3 :: x4 :: x5 :: x6 :: x7 :: x8 :: x9 :: x10 :: x11 :: x12 :: x13 :: x14 :: x15 :: x16 :: x17 :: x18 :: x19 :: x20 :: x21 :: x22 :: x23 :: x24 :: x25 :: x26 :: x27 :: x28 :: x29 :: x30 :: x31 :: x32 :: x33 :: x34 :: x35 :: x36 :: x37 :: x38 :: x39 :: x40 :: x41 :: l) 41 sv = .ok () (x0 :: x1 :: x2 :: x3 :: x4 :: x5 :: x6 :: x7 :: x8 :: x9 :: x10 :: x11 :: x12 :: x13 :: x14 :: x15 :: x16 :: x17 :: x18 :: x19 :: x20 :: x21 :: x22 :: x23 :: x24 :: x25 :: x26 :: x27 :: x28 :: x29 :: x30 :: x31 :: x32 :: x33 :: x34 :: x35 :: x36 :: x37 :: x38 :: x39 :: x40 :: sv :: l) := stow_at rfl h
@[simp] theorem stow_42 (h : Nio x42) : stow (x0 :: x1 :: x2 :: x3 :: x4 :: x5 :: x6 :: x7 :: x8 :: x9 :: x10 :: x11 :: x12 :: x13 :: x14 :: x15 :: x16 :: x17 :: x18 :: x19 :: x20 :: x21 :: x22 :: x23 :: x24 :: x25 :: x26 :: x27 :: x28 :: x29 :: x30 :: x31 :: x32 :: x33 :: x34 :: x35 :: x36 :: x37 :: x38 :: x39 :: x40 :: x41 :: x42 :: l) 42 sv = .ok () (x0 :: x1 :: x2 :: x3 :: x4 :: x5 :: x6 :: x7 :: x8 :: x9 :: x10 :: x11 :: x12 :: x13 :: x14 :: x15 :: x16 :: x17 :: x18 :: x19 :: x20 :: x21 :: x22 :: x23 :: x24 :: x25 :: x26 :: x27 :: x28 :: x29 :: x30 :: x31 :: x32 :: x33 :: x34 :: x35 :: x36 :: x37 :: x38 :: x39 :: x40 :: x41 :: sv :: l) := stow_at rfl h
@[simp] theorem stow_43 (h : Nio x43) : stow (x0 :: x1 :: x2 :: x3 :: x4 :: x5 :: x6 :: x7 :: x8 :: x9 :: x10 :: x11 :: x12 :: x13 :: x14 :: x15 :: x16 :: x17 :: x18 :: x19 :: x20 :: x21 :: x22 :: x23 :: x24 :: x25 :: x26 :: x27 :: x28 :: x29 :: x30 :: x31 :: x32 :: x33 :: x34 :: x35 :: x36 :: x37 :: x38 :: x39 :: x40 :: x41 :: x42 :: x43 :: l) 43 sv = .ok () (x0 :: x1 :: x2 :: x3 :: x4 :: x5 :: x6 :: x7 :: x8 :: x9 :: x10 :: x11 :: x12 :: x13 :: x14 :: x15 :: x16 :: x17 :: x18 :: x19 :: x20 :: x21 :: x22 :: x23 :: x24 :: x25 :: x26 :: x27 :: x28 :: x29 :: x30 :: x31 :: x32 :: x33 :: x34 :: x35 :: x36 :: x37 :: x38 :: x39 :: x40 :: x41 :: x42 :: sv :: l) := stow_at rfl h
@[simp] theorem stow_44 (h : Nio x44) : stow (x0 :: x1 :: x2 :: x3 :: x4 :: x5 :: x6 :: x7 :: x8 :: x9 :: x10 :: x11 :: x12 :: x13 :: x14 :: x15 :: x16 :: x17 :: x18 :: x19 :: x20 :: x21 :: x22 :: x23 :: x24 :: x25 :: x26 :: x27 :: x28 :: x29 :: x30 :: x31 :: x32 :: x33 :: x34 :: x35 :: x36 :: x37 :: x38 :: x39 :: x40 :: x41 :: x42 :: x43 :: x44 :: l) 44 sv = .ok () (x0 :: x1 :: x2 :: x3 :: x4 :: x5 :: x6 :: x7 :: x8 :: x9 :: x10 :: x11 :: x12 :: x13 :: x14 :: x15 :: x16 :: x17 :: x18 :: x19 :: x20 :: x21 :: x22 :: x23 :: x24 :: x25 :: x26 :: x27 :: x28 :: x29 :: x30 :: x31 :: x32 :: x33 :: x34 :: x35 :: x36 :: x37 :: x38 :: x39 :: x40 :: x41 :: x42 :: x43 :: sv :: l) := stow_at rfl h
@[simp] theorem stow_45 (h : Nio x45) : stow (x0 :: x1 :: x2 :: x3 :: x4 :: x5 :: x6 :: x7 :: x8 :: x9 :: x10 :: x11 :: x12 :: x13 :: x14 :: x15 :: x16 :: x17 :: x18 :: x19 :: x20 :: x21 :: x22 :: x23 :: x24 :: x25 :: x26 :: x27 :: x28 :: x29 :: x30 :: x31 :: x32 :: x33 :: x34 :: x35 :: x36 :: x37 :: x38 :: x39 :: x40 :: x41 :: x42 :: x43 :: x44 :: x45 :: l) 45 sv = .ok () (x0 :: x1 :: x2 :: x3 :: x4 :: x5 :: x6 :: x7 :: x8 :: x9 :: x10 :: x11 :: x12 :: x13 :: x14 :: x15 :: x16 :: x17 :: x18 :: x19 :: x20 :: x21 :: x22 :: x23 :: x24 :: x25 :: x26 :: x27 :: x28 :: x29 :: x30 :: x31 :: x32 :: x33 :: x34 :: x35 :: x36 :: x37 :: x38 :: x39 :: x40 :: x41 :: x42 :: x43 :: x44 :: sv :: l) := stow_at rfl h
end
section
variable {ρ : SE} {s s2 t : DM Fl} {Q : Fl → SE → Prop} {E : Exc → SE → Prop}
end
end DL

/- part -/
set_option Elab.async false
set_option linter.all false
set_option maxRecDepth 100000
set_option maxHeartbeats 1000000
namespace DL
open PySem PySem.Spec PyProof.Rows L2
section
variable {M : Mx} {x : Str}
theorem Vals.len : ∀ {vs : List V} {us : List Value}, Vals vs us → us.length = vs.length
  | [], [], _ => rfl
  | _ :: _, _ :: _, .cons _ h => congrArg (· + 1) (Vals.len h)
theorem KCon.tup {a : Addr} {td : Option Addr} {its : Array Value} {n : Nat} {ts : Array (Option Value)} {vs : List V} {ds : List D} (h : M.mg x = some (.ref a)) (hl : M.K.lookup a = some ⟨.type "tuple", td, .seq its n, ts⟩) (hv : Vals vs its.toList) (hz : vs.length ≤ 1000) (hr : ∀ F, Reps M F vs ds) : KCon M x (.tup ds) :=
  ⟨_, .ref a, h, rfl, fun F => .tup (.inr ⟨_, its, n, hl, rfl, rfl, by
    have := Vals.len hv
    rw [Array.length_toList] at this
    rw [this]
    exact szle (by omega), hv⟩) (hr F)⟩
end
end DL

/- part -/
set_option Elab.async false
set_option linter.all false
set_option maxRecDepth 100000
set_option maxHeartbeats 1000000
namespace DL
open PySem PySem.Spec PyProof.Rows L2
mutual
def pn : Nat → D → Bool
  | 0, _ => false
  | _ + 1, .non => true
  | _ + 1, .int _ => true
  | _ + 1, .str x => x.cps.all (· < 0x110000)
  | n + 1, .tup ds => pns n ds
  | n + 1, .lst ds => pns n ds
  | _ + 1, _ => false
def pns : Nat → List D → Bool
  | _, [] => true
  | n, d :: r => pn n d && pns n r
end
@[simp] theorem pn_int {n : Nat} {i : Int} : pn (n + 1) (.int i) = true := rfl
@[simp] theorem pn_non {n : Nat} : pn (n + 1) .non = true := rfl
@[simp] theorem pn_tup {n : Nat} {ds : List D} : pn (n + 1) (.tup ds) = pns n ds := rfl
@[simp] theorem pn_lst {n : Nat} {ds : List D} : pn (n + 1) (.lst ds) = pns n ds := rfl
@[simp] theorem pns_nil {n : Nat} : pns n [] = true := by unfold pns; rfl
@[simp] theorem pns_cons {n : Nat} {d : D} {ds : List D} : pns n (d :: ds) = (pn n d && pns n ds) := by conv => lhs; unfold pns
end DL

/- part -/
set_option Elab.async false
set_option linter.all false
set_option maxRecDepth 100000
set_option maxHeartbeats 1000000
namespace DL
open PySem PySem.Spec PyProof.Rows L2
section
variable {ρ : SE} {s t u : DM Fl}
end
end DL

/- part -/
set_option Elab.async false
set_option linter.all false
set_option maxRecDepth 100000
set_option maxHeartbeats 1000000
namespace DL
open PySem PySem.Spec PyProof.Rows L2
section
variable {M : Mx} {W : WX} {X : Cx} {F H F' H' F1 H1 F2 H2 H0 Ha : Hp} {σ σ1 : L2.St} {ρ ρ1 ρ2 ρ' : SE}
variable {a b c : Expr} {ma mb mc : DM RV} {pos : Pos}
end
section
variable {P : Program} {w : World} {base : Heap} {N : List Str} {sc : Scope} {j : Nat} {M : Mx} {W : WX} {X : Cx} {a b : Expr} {mv : DM (List D)} {p pos : Pos}
end
section
variable {M : Mx} {W : WX} {X : Cx} {F H F' H' F1 H1 F2 H2 H0 Ha : Hp} {σ σ1 : L2.St} {ρ ρ1 ρ2 ρ' : SE}
variable {a b c : Expr} {ma mb mc : DM RV} {pos : Pos}
theorem svOk_dom {v : V} {sv : SV} (dom : ∀ b, Fre Ha b → Fre H0 b) (ok : SvOk M Ha F H σ ρ v sv) : SvOk M H0 F H σ ρ v sv := by
  cases sv with
  | no => exact ok
  | im d => exact ok
  | ow io oc =>
    cases io with
    | true => exact ok
    | false =>
      obtain ⟨a, o, e, h1, h2, h3, h4, h5⟩ := ok
      exact ⟨a, o, e, h1, h2, h3, h4, dom _ h5⟩
end
section
variable {P : Program} {w : World} {base : Heap} {N : List Str} {sc : Scope} {jj : Nat} {M : Mx} {W : WX} {X : Cx} {a b c : Expr} {ma mb mc : DM RV} {pos : Pos}
end
end DL

/- part -/
set_option Elab.async false
set_option linter.all false
set_option maxRecDepth 100000
set_option maxHeartbeats 1000000
namespace DL
open PySem PySem.Spec PyProof.Rows L2
section
variable {M : Mx} {W : WX} {X : Cx} {e a : Expr} {es : List Expr} {ms : DM (List AV)} {x y : Str} {p pos : Pos} {i k n : Nat}
theorem pe_two {t1 t2 : TE} (h1 : PE X e t1) (h2 : PE X e t2) : PE X e (fun σ H Q => t1 σ H Q ∨ t2 σ H Q) :=
  ⟨fun q s σ H Q I h => h.elim (h1.run q s σ H Q I) (h2.run q s σ H Q I)⟩
theorem pe_none : PE X e (fun _ _ _ => False) := ⟨fun _ _ _ _ _ _ h => h.elim⟩
end
section
variable {P : Program} {w : World} {base : Heap} {N : List Str} {sc : Scope} {j : Nat} {M : Mx} {W : WX} {X : Cx} {a : Expr} {es : List Expr} {ms : DM (List AV)} {x y : Str} {p pos : Pos}
end
end DL

/- part -/
set_option Elab.async false
set_option linter.all false
set_option maxRecDepth 100000
set_option maxHeartbeats 1000000
namespace DL
open PySem PySem.Spec PyProof.Rows L2
theorem KCon.fn {M : Mx} {x : Str} {f : Addr} (h : M.mg x = some (.ref f)) : KCon M x (.fn x) := ⟨_, .ref f, h, rfl, fun _ => .fn h⟩
section
variable {X : Cx} {pins : List (Addr × Obj)} {σ : L2.St} {H HZ : Hp} {s s1 : Shared}
end
section
variable {X : Cx}
end
section
variable {P : Program} {w : World} {base : Heap} {N : List Str} {sc : Scope} {j : Nat}
variable {M : Mx} {W : WX} {X : Cx} {F H F' H' F1 H1 F2 H2 H0 : Hp} {σ σ1 : L2.St} {ρ ρ1 ρ2 : SE}
end
end DL

/- part -/
set_option Elab.async false
set_option linter.all false
set_option maxRecDepth 100000
set_option maxHeartbeats 4000000
namespace DL
open PySem PySem.Spec PyProof.Rows L2
section
variable {prog : Program} {w : World} {A : Around} {R : Result → Shared → Prop} {s : Shared} {E : Value → Shared → Prop}
def stepC (tg iter : Expr) (ifs : List Expr) (B : Sem Fin → Sem Fin) (nx : Code) (it : Value) (env : Env) : Sem Fin := do
  standAt iter.pos
  match ← pyNext it with
  | none => pure (.done .next)
  | some u =>
    letOwnedTupleGo tg it u
    assign tg env u
    let go ← forIn ifs true fun t r => if r = true then do let ok ← isTrue t env (eval t env); pure (ForInStep.yield ok) else pure (ForInStep.yield r)
    if go then B (again nx) else again nx
structure Fr (e : Expr) (dp : Nat) : Prop where
  l : ∀ it acc env, (Code.compLoop e dp it acc env).isFrame = false
  s : ∀ it acc env, (Code.compStart e dp it acc env).isFrame = false
  ul : ∀ (A : Around) it acc env, A.under (.compLoop e dp it acc env) = A
  us : ∀ (A : Around) it acc env, A.under (.compStart e dp it acc env) = A
theorem run_steps {e : Expr} {dp : Nat} {acc : Value} {env : Env} {tg iter : Expr} {ifs : List Expr} {B : Sem Fin → Sem Fin} {it : Value} (shape : compTurn e dp it acc env = stepC tg iter ifs B (.compLoop e dp it acc env) it env) (fr : Fr e dp) (hE : ∀ x s, ¬ E x s) (I : Nat → Shared → Prop)
    (turn : ∀ n s, I n s → wpAny (model prog w) A (pyNext it) (fun r s1 => match r with
      | none => R (.ok .next) s1
      | some u => wpAny (model prog w) A (letOwnedTupleGo tg it u) (fun _ s2 => wpAny (model prog w) A (assign tg env u) (fun _ s3 =>
          wpAny (model prog w) A (forIn ifs true fun t r => if r = true then do let ok ← isTrue t env (eval t env); pure (ForInStep.yield ok) else pure (ForInStep.yield r)) (fun go s4 =>
            if go = true then ∀ (k : Sem Fin) (Q : Fin → Shared → Prop), (∀ s5, (∃ m, m < n ∧ I m s5) → wpAny (model prog w) A k Q E s5) → wpAny (model prog w) A (B k) Q E s4
            else ∃ m, m < n ∧ I m s4) E s3) E s2) E s1) E s)
    (n : Nat) (h : I n s) : codeAny (model prog w) A (.compLoop e dp it acc env) R s := by
  refine codeAny_loop rfl I (fun n s hI => ?_) n h
  rw [fr.ul]
  show wpAny _ A (if (Code.compLoop e dp it acc env).isFrame = true then _ else (compTurn e dp it acc env).onRaise (fun x => do noteFrame x env; theTreesLotGoes x)) _ _ s
  rw [fr.l, if_neg Bool.false_ne_true]
  refine wpAny_noted ?_
  rw [shape]
  have no : ∀ {E2 : Value → Shared → Prop} (x : Value) (s : Shared), E x s → E2 x s := fun x s z => (hE x s z).elim
  refine wpAny_bind (wpAny_standAt (wpAny_bind (wpAny_mono (turn n s hI) (fun r s1 h1 => ?_) no)))
  cases r with
  | none => exact wpAny_pure h1
  | some u =>
    refine wpAny_bind (wpAny_mono h1 (fun _ s2 h2 => wpAny_bind (wpAny_mono h2 (fun _ s3 h3 => wpAny_bind (wpAny_mono h3 (fun go s4 h4 => ?_) no)) no)) no)
    cases go with
    | false => exact wpAny_pure ⟨rfl, h4⟩
    | true => exact wpAny_mono (h4 (again (.compLoop e dp it acc env)) _ fun s5 h5 => wpAny_pure ⟨rfl, h5⟩) (fun _ _ z => z) no
theorem start_ok {e : Expr} {dp : Nat} {tg iter : Expr} {ifs : List Expr} {acc it : Value} {env : Env} (fr : Fr e dp) (cl : (clausesOf e)[dp]? = some ⟨tg, iter, ifs, 0⟩) (l0 : codeAny (model prog w) A (.compLoop e dp it acc env) R s)
    (l1 : wpAny (model prog w) A (pyIter it) (fun v s' => codeAny (model prog w) A (.compLoop e dp v acc env) R s') E s) (hE : ∀ x s, ¬ E x s) : codeAny (model prog w) A (.compStart e dp it acc env) R s := by
  refine codeAny_of_tree ?_
  rw [fr.us]
  show wpAny _ A (if (Code.compStart e dp it acc env).isFrame = true then _ else (compStart e dp it acc env).onRaise (fun x => do noteFrame x env; standAt theWindowsPlace)) _ _ s
  rw [fr.s, if_neg Bool.false_ne_true]
  refine wpAny_notedAt ?_
  unfold compStart
  rw [cl]
  show wpAny _ _ (ask >>= _) _ _ s
  refine wpAny_bind (wpAny_askSetting (wpAny_ite ?_))
  have go1 : ∀ {E2 : Value → Shared → Prop}, wpAny (model prog w) A (pyIter it) (fun v s' => codeAny (model prog w) A (.compLoop e dp v acc env) R s') E2 s := fun {E2} => wpAny_mono l1 (fun _ _ z => z) fun x s z => (hE x s z).elim
  split
  · first
      | exact wpAny_bind (wpAny_pure (wpAny_pure ⟨rfl, l0⟩))
      | exact wpAny_pure ⟨rfl, l0⟩
  · first
      | exact wpAny_bind (wpAny_rule (wpAny_bind (wpAny_standAt (wpAny_bind (wpAny_mono go1 (fun v s' z => wpAny_pure ⟨rfl, z⟩) fun _ _ x => x)))))
      | (refine wpAny_bind (wpAny_rule ?_)
         show wpAny _ _ (standAt iter.pos >>= _) _ _ s
         exact wpAny_bind (wpAny_standAt (wpAny_bind (wpAny_mono go1 (fun v s' z => wpAny_pure ⟨rfl, z⟩) fun _ _ x => x))))
end
def off (H : Hp) (q : Addr) : Hp := fun b => if b = q then none else H b
section
variable {M : Mx} {W : WX} {F H F' H' F1 H1 H0 : Hp} {σ σ1 σ' : L2.St} {ρ ρ1 ρ' : SE} {q b : Addr} {o : HO}
theorem off_ne (h : b ≠ q) : off H q b = H b := if_neg h
theorem off_at : off H q q = none := if_pos rfl
theorem off_some {u : HO} (e : off H q b = some u) : b ≠ q ∧ H b = some u := by
  by_cases z : b = q
  · subst z
    rw [off_at] at e
    cases e
  · rw [off_ne z] at e
    exact ⟨z, e⟩
theorem off_upd : off (upd H q o) q = off H q := funext fun b => by
  by_cases z : b = q
  · subst z
    rw [off_at, off_at]
  · rw [off_ne z, off_ne z, upd_ne z]
theorem off_none (n : H q = none) : off H q = H := funext fun b => by
  by_cases z : b = q
  · subst z
    rw [off_at, n]
  · rw [off_ne z]
theorem off_same : Same (off H q) H := fun b u e => (off_some e).2
theorem fre_off (f : Fre H b) : Fre (off H q) b := fun o e => f o (off_some e).2
theorem unmask (sm : Sim M F (off H q) σ ρ) : Sim M F H σ ρ :=
  ⟨⟨sm.sub.trans off_same, sm.ntb⟩, sm.tabs.ext off_same, sm.len, sm.im, fun i io oc e => by
    obtain ⟨a, o, e1, h1, h2, r⟩ := sm.ow i io oc e
    exact ⟨a, o, e1, off_same _ _ h1, h2, r⟩, sm.inj⟩
theorem unstp (st : Stp F H σ ρ F' (off H' q) σ' ρ') : Stp F H σ ρ F' H' σ' ρ' :=
  ⟨st.same, fun b o h n nt => off_same _ _ (st.keep b o h n nt), st.new, st.newF, fun b z => st.dom b (fre_off z), st.io, st.noio⟩
theorem mask (sm : Sim M F (off H q) σ ρ) (hq : H q = some o) (nt : ∀ ps, o ≠ .tbl ps) (nc : ∀ x, o ≠ LamX.CodeO q x) (st : Stp F H σ ρ F' H' σ' ρ') (sm' : Sim M F' H' σ' ρ') :
    H' q = some o ∧ Stp F (off H q) σ ρ F' (off H' q) σ' ρ' ∧ Sim M F' (off H' q) σ' ρ' := by
  have nF : F q = none := sm.sub.free off_at
  have nO : ¬ Own σ ρ q := fun z => by
    obtain ⟨_, u, e, _⟩ := sm.ownF z
    rw [off_at] at e
    cases e
  have hq' : H' q = some o := st.keep _ _ hq nO nt
  have nF' : F' q = none := by
    cases e : F' q with
    | none => rfl
    | some u =>
      rcases st.newF q u e with z | z | z
      · rw [nF] at z
        cases z
      · exact (nO z).elim
      · exact (z.no hq nt).elim
  have nO' : ¬ Own σ' ρ' q := fun z => (st.new q z).elim nO fun f => f.no hq nt
  have far : ∀ {b : Addr} {u : HO}, F' b = some u → b ≠ q := fun {b u} e z => by
    rw [z, nF'] at e
    cases e
  refine ⟨hq', ⟨st.same, fun b u h n t => ?_, fun b z => (st.new b z).imp id fre_off, fun b u z => (st.newF b u z).imp id (Or.imp id fre_off), fun b z => ?_, st.io, st.noio⟩,
    ⟨⟨⟨fun b u h n => ?_, fun b n vs h => ?_⟩, sm'.ntb⟩, fun p hp => ?_, sm'.len, sm'.im, fun i io oc e => ?_, sm'.inj⟩⟩
  · obtain ⟨ne, h⟩ := off_some h
    rw [off_ne ne]
    exact st.keep b u h n t
  · by_cases zz : b = q
    · subst zz
      exact .of off_at
    · exact fun u e => st.dom b (fun u' e' => z u' (by rw [off_ne zz]; exact e')) u (off_some e).2
  · rw [off_ne (far h)]
    exact sm'.sub.go b u h n
  · rw [off_ne (far h)]
    exact sm'.sub.bk b n vs h
  · obtain ⟨ps, h1, h2, h3⟩ := sm'.tabs p hp
    refine ⟨ps, ?_, h2, fun pos cv hc => ?_⟩
    · rw [off_ne fun z => ?_]
      · exact h1
      · rw [z, hq'] at h1
        exact nt _ (Option.some.inj h1)
    · obtain ⟨c, e1, e2⟩ := h3 pos cv hc
      refine ⟨c, e1, ?_⟩
      rw [off_ne fun z => ?_]
      · exact e2
      · subst z
        rw [hq'] at e2
        exact nc _ (Option.some.inj e2)
  · obtain ⟨a, u, e1, h1, h2, r⟩ := sm'.ow i io oc e
    exact ⟨a, u, e1, by rw [off_ne fun z => nO' ⟨i, ⟨io, oc, e⟩, by rw [← z]; exact e1⟩]; exact h1, h2, r⟩
end
structure AK0 (P : Program) (w : World) (M : Mx) (q : Addr) (α : Type) where
  rel : Hp → α → HO → Prop
  up : ∀ {F F' a o}, Same F F' → rel F a o → rel F' a o
  nt : ∀ {F a o}, rel F a o → ∀ ps, o ≠ .tbl ps
  nc : ∀ {F a o}, rel F a o → ∀ x, o ≠ LamX.CodeO q x
structure AK (P : Program) (w : World) (M : Mx) (q : Addr) (α : Type) extends AK0 P w M q α where
  add : α → D → Option α
  em : Expr → Value → Env → Sem Fin → Sem Fin
  run : ∀ {Y : Cx} {elt : Expr} {te : TE} {pins : List (Addr × Obj)} {σ : L2.St} {H : Hp} {s : Shared} {N : Hp → Prop} {k : Sem Fin} {Q : Fin → Shared → Prop}, Y.prog = P → Y.w = w → PE Y elt te → Inv Y pins σ H s →
    te σ H (fun y H4 => ∃ F a d a' o, H4 q = some o ∧ rel F a o ∧ Rep M F y d ∧ add a d = some a' ∧ ∀ o', rel F a' o' → N (upd H4 q o')) →
    (∀ s' H', Inv Y pins σ H' s' → N H' → wpAny (model Y.prog Y.w) Y.A k Q Y.xe s') → wpAny (model Y.prog Y.w) Y.A (em elt (.ref q) Y.env k) Q Y.xe s
def cEm {α : Type} (add : α → D → Option α) (me : DM RV) (a : α) : DM α := fun ρ => (noEx (dFz me ρ)).bind fun y ρ1 => match add a y with
  | some a' => .ok a' ρ1
  | none => .bad
def cRun {α : Type} (vs : List Nat) (gm : D → SE → R Unit) (mt : DM Bool) (body : α → DM α) : List D → α → DM α
  | [], a, ρ => .ok a ρ
  | d :: ds, a, ρ => if noOw ρ vs = true then (noEx (gm d (wipeR ρ vs))).bind fun _ ρ1 => (noEx (mt ρ1)).bind fun k ρ2 =>
      if k = true then (noEx (body a ρ2)).bind fun a' ρ3 => cRun vs gm mt body ds a' (rest vs ρ ρ3) else cRun vs gm mt body ds a (rest vs ρ ρ2) else .bad
def cIn {α : Type} (vs : List Nat) (mi : DM (List D)) (gm : D → SE → R Unit) (mt : DM Bool) (body : α → DM α) (a : α) : DM α := fun ρ => (noEx (mi ρ)).bind fun ds ρ1 => cRun vs gm mt body ds a ρ1
theorem R.of_bind {α β : Type} {r : R α} {f : α → SE → R β} {b : β} {ρ' : SE} (h : r.bind f = .ok b ρ') : ∃ a ρ1, r = .ok a ρ1 ∧ f a ρ1 = .ok b ρ' := by
  cases r with
  | bad => cases h
  | ok a ρ1 => exact ⟨a, ρ1, rfl, h⟩
  | ex e ρ1 => cases h
theorem noEx_bind {α β : Type} {r : R α} {f : α → SE → R β} {b : β} {ρ' : SE} (h : (noEx r).bind f = .ok b ρ') : ∃ a ρ1, r = .ok a ρ1 ∧ f a ρ1 = .ok b ρ' := by
  obtain ⟨a, ρ1, e, h⟩ := R.of_bind h
  exact ⟨a, ρ1, noEx_ok e, h⟩
section
variable {P : Program} {w : World} {α : Type} {M : Mx} {W : WX} {Y : Cx} {F H F' H' F1 H1 H0 : Hp} {σ σ1 σ' : L2.St} {ρ ρ1 ρ' : SE} {q : Addr} {o : HO}
variable {tg iter elt e : Expr} {ifs : List Expr} {vs sl : List Nat} {gm : D → SE → R Unit} {mt : DM Bool} {me : DM RV} {mi : DM (List D)} {R : Result → Shared → Prop}
def BdOk (Y : Cx) (K : AK0 P w M q α) (vs : List Nat) (B : Sem Fin → Sem Fin) (body : α → DM α) : Prop := ∀ (pins : List (Addr × Obj)) (σ : L2.St) (H : Hp) (s : Shared) (F : Hp) (ρ : SE) (a : α) (o : HO) (a' : α) (ρ' : SE) (k : Sem Fin) (Q : Fin → Shared → Prop),
  Inv Y pins σ H s → Sim M F (off H q) σ ρ → H q = some o → K.rel F a o → body a ρ = .ok a' ρ' →
  (∀ F' H' o' s', Inv Y pins (L2.wipe σ vs) H' s' → Stp F (off H q) σ ρ F' (off H' q) σ ρ' → Sim M F' (off H' q) σ ρ' → H' q = some o' → K.rel F' a' o' → wpAny (model Y.prog Y.w) Y.A k Q Y.xe s') → wpAny (model Y.prog Y.w) Y.A (B k) Q Y.xe s
theorem bd_em (K : AK P w M q α) (hP : Y.prog = P) (hw : Y.w = w) (he : DE Y M W0 elt me) : BdOk Y K.toAK0 vs (K.em elt (.ref q) Y.env) (cEm K.add me) := by
  intro pins σ H s F ρ a o a' ρ' k Q I sm hq r hb hk
  unfold cEm at hb
  obtain ⟨y, ρ1, e1, hb⟩ := noEx_bind hb
  obtain ⟨te, pe, qe⟩ := he
  refine K.run (N := fun H' => ∃ F' o', Stp F (off H q) σ ρ F' (off H' q) σ ρ' ∧ Sim M F' (off H' q) σ ρ' ∧ H' q = some o' ∧ K.rel F' a' o') hP hw pe I (qe σ H F ρ _ (unmask sm) (PostD.go ?_)) ?_
  · show PostD M W0 σ ρ F H (dFz me ρ) _
    rw [e1]
    intro F4 H4 v st4 sm4 r4
    obtain ⟨h4, st4, sm4⟩ := mask sm hq (K.nt r) (K.nc r) st4 sm4
    cases ea : K.add a y with
    | none =>
      rw [ea] at hb
      cases hb
    | some a2 =>
      rw [ea] at hb
      cases hb
      exact ⟨F4, a, y, _, o, h4, K.up st4.same r, r4, ea, fun o' r' => ⟨F4, o', by rw [off_upd]; exact st4, by rw [off_upd]; exact sm4, upd_same, r'⟩⟩
  · rintro s' H' I' ⟨F', o', z1, z2, z3, z4⟩
    exact hk F' H' o' s' (I'.weak (L2.wipe_length _ _) fun j v e => (L2.wipe_some e).1) z1 z2 z3 z4
theorem loop_ok {K : AK0 P w M q α} {dp : Nat} {B : Sem Fin → Sem Fin} {body : α → DM α} (fr : Fr e dp) (hc : Y.calm = true) (hE : ∀ x s, ¬ Y.xe x s) {it : Addr} (shape : compTurn e dp (.ref it) (.ref q) Y.env = stepC tg iter ifs B (.compLoop e dp (.ref it) (.ref q) Y.env) (.ref it) Y.env)
    (dg : DG Y M tg sl gm) (dt : DTs Y M W0 ifs mt) (hsl : ∀ i ∈ sl, i ∈ vs) (bd : BdOk Y K vs B body) {fp : List Addr} {tn : Nat → Heap → Prop} {J : It} (T : Turn Y.prog Y.w Y.K tg J fp it tn) {ds : List D} {pins : List (Addr × Obj)} {s : Shared} {a a' : α}
    (ik : ItOk M J F ds) (I : Inv Y pins (L2.wipe σ vs) H s) (ff : ∀ H' s', Inv Y pins (L2.wipe σ vs) H' s' → (∀ b ∈ fp, H' b = none) → ∀ b ∈ fp, FpOk Y pins H' b) (fn : ∀ b ∈ fp, H b = none) (st : tn 0 s.heap)
    (sm : Sim M F (off H q) σ ρ) (hq : H q = some o) (r : K.rel F a o) (run : cRun vs gm mt body ds a ρ = .ok a' ρ')
    (fin : ∀ F' H' o' s', Inv Y pins (L2.wipe σ vs) H' s' → Stp F (off H q) σ ρ F' (off H' q) σ ρ' → Sim M F' (off H' q) σ ρ' → H' q = some o' → K.rel F' a' o' → (∀ b ∈ fp, H' b = none) → R (.ok .next) s') : codeAny (model Y.prog Y.w) Y.A (.compLoop e dp (.ref it) (.ref q) Y.env) R s := by
  have pg := dg.can
  have pt := dt.can
  refine run_steps shape fr hE (fun n s' => ∃ i F2 H2 ρ2 a2 o2, n = ds.length - i ∧ i ≤ ds.length ∧ Inv Y pins (L2.wipe σ vs) H2 s' ∧ tn i s'.heap ∧ (∀ b ∈ fp, H2 b = none) ∧ Stp F (off H q) σ ρ F2 (off H2 q) σ ρ2 ∧ Sim M F2 (off H2 q) σ ρ2 ∧ H2 q = some o2 ∧ K.rel F2 a2 o2 ∧ cRun vs gm mt body (ds.drop i) a2 ρ2 = .ok a' ρ')
    ?_ ds.length ⟨0, F, H, ρ, a, o, rfl, Nat.zero_le _, I, st, fn, Stp.refl _ _ _ _, sm, hq, r, run⟩
  rintro n s5 ⟨i, F5, H5, ρ5, a5, o5, hn, hi, I5, t5, n5, st5, sm5, q5, r5, run5⟩
  have sm5r := unmask sm5
  by_cases lt : i < ds.length
  · rw [List.drop_eq_getElem_cons lt] at run5
    unfold cRun at run5
    by_cases no : noOw ρ5 vs = true
    · rw [if_pos no] at run5
      obtain ⟨_, ρ6, eg, run5⟩ := noEx_bind run5
      obtain ⟨bt, ρ7, et, run5⟩ := noEx_bind run5
      obtain ⟨g1, g2⟩ := (ik i F5 H5 st5.same sm5r.sub).1 ds[i] (List.getElem?_eq_getElem lt)
      refine wpAny_mono (T.item Y rfl rfl rfl hc i pins s5 _ H5 Y.xe I5 (ff H5 s5 I5 n5) t5 g1) (fun u s6 ⟨u1, hu, h6⟩ => ?_) fun _ _ z => z
      subst hu
      refine wpAny_mono h6 (fun _ s7 ⟨x, H7, I7, rx, y7, t7, n7⟩ => ?_) fun _ _ z => z
      obtain ⟨F7, al, rp⟩ := g2 x H7 y7
      obtain ⟨q7, st7, sm7⟩ := mask sm5 q5 (K.nt r5) (K.nc r5) (al.stp σ ρ5) (sm5r.alc al)
      have sm7r := unmask sm7
      have smw := wipe_sim (vs := vs) sm7
      have Ip := I7.pinned (ff H7 s7 I7 n7) (T.obj _ _ t7)
      refine wpAny_mono (pg.run _ s7 _ H7 x u1 (fun σ8 H8 => But sl (L2.wipe σ vs) σ8 ∧ H8 = H7 ∧ Stp F7 H7 (L2.wipe σ vs) (wipeR ρ5 vs) F7 H7 σ8 ρ6 ∧ Sim M F7 H7 σ8 ρ6) Ip rx
        ⟨ds[i], F7, wipeR ρ5 vs, wipe_sim sm7r, rp, ρ6, eg, fun σ8 bu st8 sm8 => ⟨bu, rfl, st8 _ _ _ _ (Stp.refl _ _ _ _), sm8⟩⟩) (fun _ s8 ⟨σ8, H8, I8, bu, eH, st8, sm8r⟩ => ?_) fun _ _ z => z
      subst eH
      obtain ⟨w1, w2⟩ := wipe_but hsl bu
      obtain ⟨_, st8, sm8⟩ := mask smw q7 (K.nt r5) (K.nc r5) st8 sm8r
      refine wpAny_mono (pt.run _ s8 σ8 H8 (fun b H9 => b = bt ∧ ∃ F9, Stp F7 H8 σ8 ρ6 F9 H9 σ8 ρ7 ∧ Sim M F9 H9 σ8 ρ7) I8 ⟨F7, ρ6, sm8r, by rw [et]; exact fun F9 H9 st9 sm9 => ⟨rfl, F9, st9, sm9⟩⟩) (fun b s9 ⟨H9, I9, eb, F9, st9, sm9⟩ => ?_) fun _ _ z => z
      subst eb
      obtain ⟨q9, st9, sm9⟩ := mask sm8 q7 (K.nt r5) (K.nc r5) st9 sm9
      have lens : ∀ {ρx : SE}, σ8.length = ρx.length → ρx.length = ρ5.length := fun {ρx} z => by rw [← z, bu.1, L2.wipe_length, sm5.len]
      have back : ∀ {H' : Hp} {s' : Shared}, Inv Y (pins ++ pinsAt fp s7.heap) (L2.wipe σ vs) H' s' → Inv Y pins (L2.wipe σ vs) H' s' ∧ tn (i + 1) s'.heap ∧ ∀ b ∈ fp, H' b = none := fun {H' s'} I' => by
        have pin' : ∀ b ∈ fp, ∀ u, s7.heap.get? b = some u → s'.heap.get? b = some u ∧ H' b = none := fun b hb u hu =>
          have z := I'.pin (b, u) (List.mem_append_right _ (List.mem_append_right _ (mem_pinsAt hb hu)))
          ⟨z.1, z.2.1⟩
        refine ⟨I'.unpinned, T.keep _ _ _ t7 fun b hb u hu => (pin' b hb u hu).1, fun b hb => ?_⟩
        obtain ⟨u, hu, _⟩ := T.obj _ _ t7 b hb
        exact (pin' b hb u hu).2
      have weak : ∀ {H' : Hp} {s' : Shared}, Inv Y (pins ++ pinsAt fp s7.heap) σ8 H' s' → Inv Y (pins ++ pinsAt fp s7.heap) (L2.wipe σ vs) H' s' := fun {H' s'} I' => by
        rw [← w1]
        exact I'.weak (L2.wipe_length _ _) fun j v e => (L2.wipe_some e).1
      have stp5 : ∀ {F' H' ρx}, Stp F9 (off H9 q) σ8 ρ7 F' (off H' q) σ8 ρx → Sim M F' (off H' q) σ8 ρx → Stp F (off H q) σ ρ F' (off H' q) σ (rest vs ρ5 ρx) ∧ Sim M F' (off H' q) σ (rest vs ρ5 ρx) ∧ Same F5 F' := fun {F' H' ρx} z1 z2 => by
        obtain ⟨z3, z4⟩ := rest_sim sm7 no w2 ((st8.trans st9).trans z1) z2 (lens z2.len)
        exact ⟨st5.trans (st7.trans z3), z4, st7.same.trans z3.same⟩
      cases b with
      | false =>
        rw [if_neg Bool.false_ne_true] at run5
        rw [if_neg Bool.false_ne_true]
        obtain ⟨z1, z2, z3⟩ := stp5 (Stp.refl _ _ _ _) sm9
        obtain ⟨y1, y2, y3⟩ := back (weak I9)
        exact ⟨ds.length - (i + 1), by omega, i + 1, F9, H9, _, a5, o5, rfl, lt, y1, y2, y3, z1, z2, q9, K.up z3 r5, run5⟩
      | true =>
        rw [if_pos rfl] at run5
        rw [if_pos rfl]
        obtain ⟨a6, ρ8, ebd, run5⟩ := noEx_bind run5
        intro k Q hk
        refine bd _ σ8 H9 s9 F9 ρ7 a5 o5 a6 ρ8 k Q I9 sm9 q9 (K.up ((st7.same.trans st8.same).trans st9.same) r5) ebd fun F' H' o' s' I' st' sm' hq' r' => hk s' ?_
        obtain ⟨z1, z2, z3⟩ := stp5 st' sm'
        rw [w1] at I'
        obtain ⟨y1, y2, y3⟩ := back I'
        exact ⟨ds.length - (i + 1), by omega, i + 1, F', H', _, a6, o', rfl, lt, y1, y2, y3, z1, z2, hq', r', run5⟩
    · rw [if_neg no] at run5
      cases run5
  · have ei : i = ds.length := by omega
    subst ei
    rw [List.drop_length] at run5
    cases run5
    refine wpAny_mono (T.done Y rfl rfl rfl hc _ pins s5 _ H5 Y.xe I5 (ff H5 s5 I5 n5) t5 ((ik _ F5 H5 st5.same sm5r.sub).2 (Nat.le_refl _))) (fun u s6 ⟨hu, I6⟩ => ?_) fun _ _ z => z
    subst hu
    exact fin F5 H5 o5 s6 I6 st5 sm5 q5 r5 n5
end
end DL

/- part -/
set_option Elab.async false
set_option linter.all false
set_option maxRecDepth 100000
set_option maxHeartbeats 4000000
namespace DL
open PySem PySem.Spec PyProof.Rows L2
section
variable {P : Program} {w : World} {α : Type} {M : Mx} {W : WX} {X Y : Cx} {F H F' H' F1 H1 H0 : Hp} {σ σ1 σ' : L2.St} {ρ ρ1 ρ' : SE} {q : Addr} {o : HO}
variable {tg iter elt e tg1 iter1 : Expr} {ifs ifs1 : List Expr} {vs vs1 sl sl1 : List Nat} {gm gm1 : D → SE → R Unit} {mt mt1 : DM Bool} {me : DM RV} {mi mi1 : DM (List D)}
theorem DI.can (h : DI X M W tg iter mi) : PI X tg iter (fun σ H R => ∃ F ρ, Sim M F H σ ρ ∧ PostI M W σ ρ F H (mi ρ) R) := by
  obtain ⟨t, p, q⟩ := h
  exact ⟨fun pins s σ H R I ⟨F, ρ, sm, po⟩ => p.run pins s σ H R I (q σ H F ρ R sm po)⟩
def inC (e : Expr) (iter1 : Expr) (acc : Value) (env : Env) (k : Sem Fin) : Sem Fin := do
  let x ← eval iter1 env
  standAt iter1.pos
  let y ← foldedSetIterable iter1 env x
  let _ ← runOwn (.compStart e 1 (← holding [y] (pyIter y)) acc env) env
  k
theorem bd_in {K : AK0 P w M q α} {body : α → DM α} {B : Sem Fin → Sem Fin} (fr : Fr e 1) (hc : Y.calm = true) (hE : ∀ x s, ¬ Y.xe x s) (cl : (clausesOf e)[1]? = some ⟨tg1, iter1, ifs1, 0⟩)
    (shape : ∀ it : Addr, compTurn e 1 (.ref it) (.ref q) Y.env = stepC tg1 iter1 ifs1 B (.compLoop e 1 (.ref it) (.ref q) Y.env) (.ref it) Y.env) (hs : ∀ x, foldedSetIterable iter1 Y.env x = pure x)
    (di : DI Y M W0 tg1 iter1 mi1) (dg : DG Y M tg1 sl1 gm1) (dt : DTs Y M W0 ifs1 mt1) (hsl : ∀ i ∈ sl1, i ∈ vs1) (hv : ∀ i ∈ vs1, i ∈ vs) (bd : BdOk Y K vs1 B body) :
    BdOk Y K vs (inC e iter1 (.ref q) Y.env) (cIn vs1 mi1 gm1 mt1 body) := by
  intro pins σ H s F ρ a o a' ρ' k Q I sm hq r hb hk
  unfold cIn at hb
  obtain ⟨ds, ρ1, e1, hb⟩ := noEx_bind hb
  have no : ∀ {E2 : Value → Shared → Prop} (x : Value) (s : Shared), Y.xe x s → E2 x s := fun x s z => (hE x s z).elim
  refine wpAny_bind (wpAny_mono (di.can.run pins s σ H (fun J H' => ∃ F', Stp F H σ ρ F' H' σ ρ1 ∧ Sim M F' H' σ ρ1 ∧ ItOk M J F' ds) I ⟨F, ρ, unmask sm, by rw [e1]; exact fun F' H' J st sm ik => ⟨F', st, sm, ik⟩⟩) (fun x s1 h1 => ?_) no)
  refine wpAny_bind (wpAny_standAt (wpAny_bind (wpAny_of_eq (hs x) (wpAny_bind (wpAny_holding (wpAny_mono h1 (fun itv s2 h2 => ?_) no))))))
  obtain ⟨it, fp, tn, J, H2, eq, I2, T, t2, f2, F2, st2, sm2, ik⟩ := h2
  subst eq
  obtain ⟨q2, st2, sm2⟩ := mask sm hq (K.nt r) (K.nc r) st2 sm2
  have I2w : Inv Y pins (L2.wipe σ vs1) H2 s2 := I2.weak (L2.wipe_length _ _) fun j v e => (L2.wipe_some e).1
  refine wpAny_bind (wpAny_runOwn ?_)
  rw [Around.mark_none]
  have loop : codeAny (model Y.prog Y.w) Y.A (.compLoop e 1 (.ref it) (.ref q) Y.env) (fun r s' => match r with
      | .ok _ => wpAny (model Y.prog Y.w) Y.A k Q Y.xe s'
      | .error _ => False) s2 :=
    loop_ok fr hc hE (shape it) dg dt hsl bd T ik I2w (fun H' s' I' hn b hb => ⟨hn b hb, (f2 b hb).2⟩) (fun b hb => (f2 b hb).1) t2 sm2 q2 (K.up st2.same r) hb fun F' H' o' s' I' st' sm' hq' r' _ => by
      refine hk F' H' o' s' (I'.weak (by rw [L2.wipe_length, L2.wipe_length]) fun j v e => ?_) (st2.trans st') sm' hq' r'
      obtain ⟨z1, z2⟩ := L2.wipe_some e
      rw [wipe_out' fun z => z2 (hv j z)]
      exact z1
  refine codeAny_mono (start_ok fr cl loop (T.self Y.A 0 _ _ _ t2 loop) hE) fun r s' hr => ?_
  cases r with
  | ok f =>
    first
      | exact hr
      | exact wpAny_bind (wpAny_pure hr)
  | error x => exact hr.elim
def PostK (W : WX) (Ks : ∀ q, AK0 P w M q α) (σ : L2.St) (ρ : SE) (F H : Hp) (r : R α) (Q : VK) : Prop := match r with
  | .bad => False
  | .ok a ρ' => ∀ F' H' q o, Stp F H σ ρ F' H' σ ρ' → Sim M F' H' σ ρ' → H' q = some o → (Ks q).rel F' a o → F' q = none → ¬ Own σ ρ' q → Fre H q → Q (.ref q) H'
  | .ex e ρ' => ∀ F' H' cls d, Stp F H σ ρ F' H' σ ρ' → Sim M F' H' σ ρ' → ExcOk M F' H' cls d e → W cls d σ H'
def BlkC (X : Cx) (csc : Scope) (Y : Cx) : Prop := ∃ (s : Shared) (H : Hp) (C : Addr) (cl : List (Str × Addr)) (fp : List Addr), Y = X.blk s H csc (compEnvC csc cl C X.env) fp
theorem pe_comp {csc : Scope} {own : List (Str × Nat)} {gs : List Comprehension} {newAcc : Sem Value} {nob : Obj} {p0 : Pos} (Ks : ∀ q, AK0 X.prog X.w M q α) (a0 : α) {body : α → DM α} (B : Expr → Value → Env → Sem Fin → Sem Fin) (fr : Fr e 0) (cl : clausesOf e = ⟨tg, iter, ifs, 0⟩ :: gs)
    (hev : eval e X.env = comprehension e csc X.env p0 newAcc false (eval iter X.env) none) (hs : ∀ x, foldedSetIterable iter X.env x = pure x) (hc : X.calm = true) (hN : X.N.Nodup) (ok : BlkOk X.N X.env.scope csc own)
    (hnew : ∀ (s : Shared) (Q : Value → Shared → Prop), Q (.ref s.heap.objs.size) { s with heap := s.heap.push nob } → wpAny (model X.prog X.w) X.A newAcc Q X.xe s) (first : ∀ (F H : Hp) (h : Heap), sysModules < h.objs.size → ∃ o, (Ks h.objs.size).rel F a0 o ∧ ∀ H', ObjOk X.prog X.w H' (h.push nob) h.objs.size o)
    (di : DI X M W tg iter mi) (dg : ∀ Y, BlkC X csc Y → DG Y M tg sl gm) (dt : ∀ Y, BlkC X csc Y → DTs Y M W0 ifs mt) (hsl : ∀ i ∈ sl, i ∈ own.map (·.2)) 
    (shape : ∀ (it q : Addr) (env : Env), compTurn e 0 (.ref it) (.ref q) env = stepC tg iter ifs (B e (.ref q) env) (.compLoop e 0 (.ref it) (.ref q) env) (.ref it) env)
    (bd : ∀ q Y, BlkC X csc Y → ∀ (hP : Y.prog = X.prog) (hw : Y.w = X.w), BdOk Y (Ks q) (own.map (·.2)) (B e (.ref q) Y.env) body) :
    PE X e (fun σ H Q => ∃ F ρ, Sim M F H σ ρ ∧ PostK W Ks σ ρ F H ((mi ρ).bind fun ds ρ1 => noEx (cRun (own.map (·.2)) gm mt body ds a0 ρ1)) Q) := by
  refine ⟨fun pins s σ H Q I ⟨F, ρ, sm, po⟩ => ?_⟩
  rw [hev]
  have hfree : ∀ y ∈ csc.names, y.2 = .free → ∃ c, X.env.cells.lookup y.1 = some c := fun y hy z => (ok.free y hy z).elim (fun k => I.ok.has _ (.inl k)) fun k => I.ok.has _ (.inr k)
  refine wpAny_comprehension_free (use := none) cl hs (closure_ok hfree) ok.kind (fun y hy z => by rw [ok.uniq y hy, z]) ?_
  refine thn (di.can.run pins s σ H (fun J H1 => ∃ ds ρ1 F1, mi ρ = .ok ds ρ1 ∧ Stp F H σ ρ F1 H1 σ ρ1 ∧ Sim M F1 H1 σ ρ1 ∧ ItOk M J F1 ds) I ⟨F, ρ, sm, ?_⟩) fun xv s1 hx => thn hx fun itv s2 h2 => ?_
  · cases em : mi ρ with
    | bad =>
      rw [em] at po
      exact po
    | ok ds ρ1 => exact fun F1 H1 J z1 z2 z3 => ⟨ds, ρ1, F1, rfl, z1, z2, z3⟩
    | ex x ρ1 =>
      rw [em] at po
      exact po
  obtain ⟨it, fp, tn, J, H2, eit, I2, T, t2, f2, ds, ρ1, F1, em, st1, sm1, ik⟩ := h2
  subst eit
  rw [em] at po
  have po : PostK W Ks σ ρ F H (noEx (cRun (own.map (·.2)) gm mt body ds a0 ρ1)) Q := po
  cases er : cRun (own.map (·.2)) gm mt body ds a0 ρ1 with
  | bad =>
    rw [er] at po
    exact po.elim
  | ex x ρ2 =>
    rw [er] at po
    exact po.elim
  | ok a' ρ2 =>
    rw [er] at po
    refine hnew s2 _ (newEnv_comp ?_)
    obtain ⟨o, r0, okN⟩ := first F1 H2 s2.heap I2.big
    have nq : H2 s2.heap.objs.size = none := I2.hok.fresh (Nat.le_refl _)
    have I3 : Inv X pins σ (upd H2 s2.heap.objs.size o) { s2 with heap := s2.heap.push nob } := I2.laid (t' := s2.toks) (fun b u z => Heap.get?_push_of_some _ z) (Nat.le_refl _) (okN _)
    generalize hs3 : ({ s2 with heap := s2.heap.push nob } : Shared) = s3 at I3
    have hh3 : s3.heap = s2.heap.push nob := by rw [← hs3]
    have f3 : ∀ b ∈ fp, FpOk X pins (upd H2 s2.heap.objs.size o) b ∧ b < s3.heap.objs.size := fun b hb => by
      obtain ⟨u, hu, _⟩ := T.obj _ _ t2 b hb
      have lt := Heap.lt_size hu
      refine ⟨⟨?_, (f2 b hb).2⟩, by rw [hh3, Heap.size_push]; exact Nat.lt_succ_of_lt lt⟩
      rw [upd_ne (Nat.ne_of_lt lt)]
      exact (f2 b hb).1
    have t3 : tn 0 s3.heap := T.keep _ _ _ t2 fun b _ u z => by
      rw [hh3]
      exact Heap.get?_push_of_some _ z
    have I4 := block_start I3 ok hN f3
    have fq : (upd H2 s2.heap.objs.size o) s2.heap.objs.size = some o := upd_same
    have msk : off (upd H2 s2.heap.objs.size o) s2.heap.objs.size = H2 := by rw [off_upd, off_none nq]
    generalize s2.heap.objs.size = q at *
    show codeAny _ _ (.compStart e 0 (.ref it) (.ref q) (compEnvC csc (cellsFrom (s3.heap.objs.size + 1) csc.names (cloFrom X.env.cells csc.names [])) s3.heap.objs.size X.env)) (compPost (model X.prog X.w) X.A X.xe none (EP X pins σ Q) (.ref q) s3.heap.objs.size) { s3 with heap := pushCells (s3.heap.push { cls := .type "dict", data := .dict #[] }) csc.names }
    have bY : BlkC X csc (X.blk s3 (upd H2 q o) csc (compEnvC csc (cellsFrom (s3.heap.objs.size + 1) csc.names (cloFrom X.env.cells csc.names [])) s3.heap.objs.size X.env) fp) := ⟨_, _, _, _, _, rfl⟩
    generalize hs4 : ({ s3 with heap := pushCells (s3.heap.push { cls := .type "dict", data := .dict #[] }) csc.names } : Shared) = s4 at I4
    have t4 : tn 0 s4.heap := T.keep _ _ _ t3 fun b _ u z => by
      rw [← hs4]
      exact pushCells_keeps _ _ _ _ (Heap.get?_push_of_some _ z)
    generalize hY : X.blk s3 (upd H2 q o) csc (compEnvC csc (cellsFrom (s3.heap.objs.size + 1) csc.names (cloFrom X.env.cells csc.names [])) s3.heap.objs.size X.env) fp = Z at I4 bY
    have zP : Z.prog = X.prog := by rw [← hY]
    have zw : Z.w = X.w := by rw [← hY]
    have zK : Z.K = X.K := by rw [← hY]
    have zA : Z.A = X.A := by rw [← hY]
    have zC : Z.calm = true := by rw [← hY]; exact hc
    have zE : ∀ x s, ¬ Z.xe x s := fun x s z => by
      rw [← hY] at z
      exact z
    have zenv : Z.env = compEnvC csc (cellsFrom (s3.heap.objs.size + 1) csc.names (cloFrom X.env.cells csc.names [])) s3.heap.objs.size X.env := by rw [← hY]
    have ff : ∀ H' s', Inv Z [] (L2.wipe σ (own.map (·.2))) H' s' → (∀ b ∈ fp, H' b = none) → ∀ b ∈ fp, FpOk Z [] H' b := fun H' s' I' hn b hb => by
      subst hY
      exact ⟨hn b hb, (I'.ok.exf b hb).1, I'.ok.exfs b hb, .inl hb, fun x c z => (I'.ok.exf b hb).2 x c z, fun p hp => absurd (show p ∈ ([] : List (Addr × Obj)) ++ [] from hp) (by simp)⟩
    have loop : codeAny (model X.prog X.w) X.A (.compLoop e 0 (.ref it) (.ref q) Z.env) (compPost (model X.prog X.w) X.A X.xe none (EP X pins σ Q) (.ref q) s3.heap.objs.size) s4 := by
      have T' : Turn Z.prog Z.w Z.K tg J fp it tn := by
        rw [zP, zw, zK]
        exact T
      have B' := bd q Z bY zP zw
      rw [← zP, ← zw, ← zA]
      refine loop_ok (K := Ks q) (B := B e (.ref q) Z.env) fr zC zE (shape it q Z.env) (dg Z bY) (dt Z bY) hsl (by rw [← zP, ← zw] at *; exact B') T' ik I4 ff (fun b hb => (f3 b hb).1.1) t4 (by rw [msk]; exact sm1) fq r0 er ?_
      intro F' H' o' s6 I6 st6 sm6 q6 r6 n6
      rw [msk] at st6
      rw [zP, zw, zA]
      subst hY
      have I7 : Inv X pins σ H' s6 := I3.call' (ch := fp) I6.os I6.base I6.hok I6.bare fun b hb => ⟨(f3 b hb).1.2.2.2.1, (f3 b hb).1.2.1, (f3 b hb).1.2.2.2.2.1, (f3 b hb).1.2.2.2.2.2⟩
      have nC : H' s3.heap.objs.size = none := I6.free
      obtain ⟨m, hn, _⟩ := I6.loc
      obtain ⟨g0, g1, g2, g3, g4, g5⟩ := I3.fpOk (H' := H') (Nat.le_refl _) nC
      have fq0 : Fre H q := st1.dom q (.of nq)
      have F'q : F' q = none := sm6.sub.free off_at
      have nO' : ¬ Own σ ρ2 q := fun z => by
        obtain ⟨_, u, e, _⟩ := sm6.ownF z
        rw [off_at] at e
        cases e
      refine ⟨m, hn, fun h'' sb => ⟨.ref q, H', I7.turned (t' := s6.toks) (fun b u hb z => (sb.2 b hb).trans z) g0 g1 g3 g4 g5, rfl, ?_⟩⟩
      exact po F' H' q o' (st1.trans (unstp st6)) (unmask sm6) q6 r6 F'q nO' fq0
    rw [← zenv]
    have hE0 : ∀ x s, ¬ (fun (_ : Value) (_ : Shared) => False) x s := fun _ _ z => z
    exact start_ok fr (by rw [cl]; rfl) loop (T.self X.A 0 _ _ _ t4 loop) hE0
end
end DL

/- part -/
set_option Elab.async false
set_option linter.all false
set_option maxRecDepth 100000
set_option maxHeartbeats 4000000
namespace DL
open PySem PySem.Spec PyProof.Rows L2
def addL (ds : List D) (d : D) : Option (List D) := if ds.length < 1000000 then some (ds ++ [d]) else none
def emL (elt : Expr) (acc : Value) (env : Env) (k : Sem Fin) : Sem Fin := do
  (do let y ← eval elt env; let _ ← call (.builtin "list.append") [acc, y])
  k
def listKf (P : Program) (w : World) (M : Mx) (q : Addr) : AK P w M q (List D) where
  add := addL
  rel := fun F ds o => ∃ vs, o = .lst vs ∧ Reps M F vs ds
  up := fun e ⟨vs, h, r⟩ => ⟨vs, h, r.up e⟩
  nt := fun ⟨vs, h, _⟩ ps z => by
    subst h
    cases z
  nc := fun ⟨vs, h, _⟩ x z => by
    subst h
    cases z
  em := emL
  run := by
    intro Y elt te pins σ H s N k Q hP hw pe I h hk
    refine wpAny_bind (wpAny_bind (wpAny_mono (pe.run pins s σ H _ I h) (fun u s1 ⟨y, H4, I4, r4, F, a, d, a', o, h4, ⟨vs, eo, rv⟩, rd, ea, hN⟩ => ?_) fun _ _ z => z))
    subst eo
    unfold addL at ea
    split at ea
    · rename_i lt
      cases ea
      refine wpAny_bind (app_ok I4 h4 (by rw [rv.length]; exact szlt lt) r4 fun s2 I2 => ?_)
      exact wpAny_pure (hk s2 _ I2 (hN _ ⟨vs ++ [y], rfl, rv.append (.cons rd .nil)⟩))
    · cases ea
abbrev listK (P : Program) (w : World) (M : Mx) (q : Addr) : AK0 P w M q (List D) := (listKf P w M q).toAK0
section
variable {P : Program} {w : World} {A : Around} {E : Value → Shared → Prop} {s : Shared} {a : Addr}
end
section
variable {X : Cx}
end
end DL

/- part -/
set_option Elab.async false
set_option linter.all false
set_option maxRecDepth 100000
set_option maxHeartbeats 4000000
namespace DL
open PySem PySem.Spec PyProof.Rows L2
section
variable {P : Program} {w : World} {base : Heap} {N : List Str} {sc csc : Scope} {j : Nat}
variable {M : Mx} {W : WX} {X Y : Cx} {F H F' H' F1 H1 H0 : Hp} {σ σ1 σ' : L2.St} {ρ ρ1 ρ' : SE} {q : Addr} {o : HO}
variable {tg iter elt e tg1 iter1 : Expr} {ifs ifs1 : List Expr} {own : List (Str × Nat)} {vs1 sl sl1 : List Nat} {gm gm1 : D → SE → R Unit} {mt mt1 : DM Bool} {me : DM RV} {mi mi1 : DM (List D)} {pos p : Pos}
theorem fr_of {e : Expr} {dp : Nat} (h1 : ∀ it acc env, (Code.compLoop e dp it acc env).isFrame = false := by intro _ _ _; rfl) (h2 : ∀ it acc env, (Code.compStart e dp it acc env).isFrame = false := by intro _ _ _; rfl)
    (h3 : ∀ (A : Around) it acc env, A.under (.compLoop e dp it acc env) = A := by intro _ _ _ _; rfl) (h4 : ∀ (A : Around) it acc env, A.under (.compStart e dp it acc env) = A := by intro _ _ _ _; rfl) : Fr e dp := ⟨h1, h2, h3, h4⟩
def dGat {α : Type} (vs : List Nat) (mi : DM (List D)) (gm : D → SE → R Unit) (mt : DM Bool) (body : α → DM α) (a0 : α) : DM α := fun ρ => (mi ρ).bind fun ds ρ1 => noEx (cRun vs gm mt body ds a0 ρ1)
def dLc2 (m : DM (List D)) : DM RV := fun ρ => (m ρ).bind fun ys ρ1 => .ok (.ow (.ls ys)) ρ1
theorem de_lc2 (C : CxD P w base M N sc j X W) (own : List (Str × Nat)) (ok : BlkOk N sc csc own) (vs1 : List Nat) (hi : DI X M W tg iter mi)
    (hg : ∀ (s : Shared) (H : Hp) (Ca : Addr) (cl : List (Str × Addr)) (fp : List Addr), DG (X.blk s H csc (compEnvC csc cl Ca X.env) fp) M tg sl gm) (ht : ∀ (s : Shared) (H : Hp) (Ca : Addr) (cl : List (Str × Addr)) (fp : List Addr), DTs (X.blk s H csc (compEnvC csc cl Ca X.env) fp) M W0 ifs mt)
    (hi1 : ∀ (s : Shared) (H : Hp) (Ca : Addr) (cl : List (Str × Addr)) (fp : List Addr), DI (X.blk s H csc (compEnvC csc cl Ca X.env) fp) M W0 tg1 iter1 mi1)
    (hg1 : ∀ (s : Shared) (H : Hp) (Ca : Addr) (cl : List (Str × Addr)) (fp : List Addr), DG (X.blk s H csc (compEnvC csc cl Ca X.env) fp) M tg1 sl1 gm1) (ht1 : ∀ (s : Shared) (H : Hp) (Ca : Addr) (cl : List (Str × Addr)) (fp : List Addr), DTs (X.blk s H csc (compEnvC csc cl Ca X.env) fp) M W0 ifs1 mt1)
    (he : ∀ (s : Shared) (H : Hp) (Ca : Addr) (cl : List (Str × Addr)) (fp : List Addr), DE (X.blk s H csc (compEnvC csc cl Ca X.env) fp) M W0 elt me) (hsl : ∀ i ∈ sl, i ∈ own.map (·.2) := by decide) (hsl1 : ∀ i ∈ sl1, i ∈ vs1 := by decide) (hv : ∀ i ∈ vs1, i ∈ own.map (·.2) := by decide)
    (hs : ∀ x, foldedSetIterable iter X.env x = pure x := by intro _; rfl) (hs1 : ∀ env x, foldedSetIterable iter1 env x = pure x := by intro _ _; rfl) :
    DE X M W (.ListComp elt [⟨tg, iter, ifs, 0⟩, ⟨tg1, iter1, ifs1, 0⟩] csc pos) (dLc2 (dGat (own.map (·.2)) mi gm mt (cIn vs1 mi1 gm1 mt1 (cEm addL me)) [])) := by
  refine ⟨_, pe_comp (W := W) (nob := seqObj "list" #[] 0) (fun q => listK X.prog X.w M q) [] (fun e acc env => inC e iter1 acc env) fr_of rfl (eval_ListComp _ _ _ _) hs C.cm C.nd' (by rw [C.hN, C.hs]; exact ok) (fun s Q h => wpAny_newList h (Nat.zero_le _))
    (fun F H h _ => ⟨.lst [], ⟨[], rfl, .nil⟩, fun H' => ⟨Nat.zero_le _, [], 0, .nil, Heap.get?_push_size _ rfl⟩⟩) hi
    (fun Y ⟨s, H, Ca, cl, fp, e⟩ => e ▸ hg s H Ca cl fp) (fun Y ⟨s, H, Ca, cl, fp, e⟩ => e ▸ ht s H Ca cl fp) hsl (fun it q env => rfl)
    (fun q Y ⟨s, H, Ca, cl, fp, e⟩ hP hw => by
      subst e
      exact bd_in (K := listK X.prog X.w M q) (body := cEm addL me) (B := emL elt (.ref q) (compEnvC csc cl Ca X.env)) fr_of C.cm (fun _ _ z => z) rfl (fun it => rfl) (hs1 _) (hi1 s H Ca cl fp) (hg1 s H Ca cl fp) (ht1 s H Ca cl fp) hsl1 hv (bd_em (Y := X.blk s H csc (compEnvC csc cl Ca X.env) fp) (listKf X.prog X.w M q) rfl rfl (he s H Ca cl fp))), fun σ H F ρ Q sm h => ⟨F, ρ, sm, ?_⟩⟩
  have h : Post M W σ ρ F H ((dGat (own.map (·.2)) mi gm mt (cIn vs1 mi1 gm1 mt1 (cEm addL me)) [] ρ).bind fun ys ρ1 => .ok (.ow (.ls ys)) ρ1) Q := h
  show PostK W _ σ ρ F H (dGat (own.map (·.2)) mi gm mt (cIn vs1 mi1 gm1 mt1 (cEm addL me)) [] ρ) Q
  cases er : dGat (own.map (·.2)) mi gm mt (cIn vs1 mi1 gm1 mt1 (cEm addL me)) [] ρ with
  | bad =>
    rw [er] at h
    exact h.elim
  | ex x ρ2 =>
    rw [er] at h
    exact h
  | ok ys ρ2 =>
    rw [er] at h
    rintro F' H' q o st sm' hq ⟨vs, eo, rv⟩ nF nO fr
    subst eo
    exact h F' H' _ st sm' ⟨q, _, rfl, hq, nF, .ls rv, nO, fr⟩
variable {mk : DM (List Int)}
end
end DL

/- part -/
set_option Elab.async false
set_option linter.all false
set_option maxRecDepth 100000
set_option maxHeartbeats 4000000
namespace DL
open PySem PySem.Spec PyProof.Rows L2
section
variable {P : Program} {w : World} {base : Heap} {N : List Str} {sc : Scope} {j : Nat}
variable {M : Mx} {W : WX} {X : Cx} {F H F' H' F1 H1 F2 H2 H0 : Hp} {σ σ1 : L2.St} {ρ ρ1 ρ2 : SE}
variable {a b c e tg : Expr} {mv : DM (List D)} {pos p : Pos}
end
end DL

/- part -/
set_option Elab.async false
set_option linter.all false
set_option maxRecDepth 100000
set_option maxHeartbeats 1000000
namespace DL
open PySem PySem.Spec PyProof.Rows L2
section
variable {α : Type} {ρ : SE} {vs : List Nat} {gm : D → SE → R Unit} {mt : DM Bool} {body : α → DM α} {ds : List D} {mi : DM (List D)} {a0 : α}
end
end DL
namespace DL
open PySem PySem.Spec PyProof.Rows L2
end DL

/- part -/
set_option Elab.async false
set_option linter.all false
set_option maxRecDepth 100000
set_option maxHeartbeats 1000000
namespace DL
open PySem PySem.Spec PyProof.Rows L2
section
variable {P : Program} {w : World} {base : Heap} {N : List Str} {sc : Scope} {j : Nat}
variable {M : Mx} {W : WX} {X : Cx} {F H F' H' F1 H1 F2 H2 H0 : Hp} {σ σ1 : L2.St} {ρ ρ1 ρ2 : SE}
variable {a b c e o : Expr} {ma mb m mo : DM RV} {es : List Expr} {ms : DM (List AV)} {mv : DM (List D)} {pos p p' q1 q2 apos cpos bpos : Pos} {x f : Str}
theorem NdF.set {c f : Str} {p : Addr} {od : Obj} {us : List V} {vs : List (Str × V)} (h : NdF F c vs) (hp : F p = some (.frz od (.tup us))) (hd : od.dict = none) : NdF F c (putF f (.ref p) vs) := fun z v q => by
  by_cases e : f = "digits"
  · subst e
    have : v = .ref p := by
      have gen : ∀ vs : List (Str × V), (putF "digits" (.ref p) vs).lookup ("digits" : Str) = some (.ref p) := by
        intro vs
        induction vs with
        | nil =>
          show List.lookup ("digits" : Str) [(("digits" : Str), V.ref p)] = _
          rw [List.lookup_cons, beq_self_eq_true]
        | cons y r ih =>
          obtain ⟨g, x⟩ := y
          unfold putF
          by_cases e : g = "digits"
          · rw [if_pos e, List.lookup_cons, e, beq_self_eq_true]
          · rw [if_neg e, List.lookup_cons, show (("digits" : Str) == g) = false from beq_eq_false_iff_ne.mpr (Ne.symm e)]
            exact ih
      rw [gen vs] at q
      exact (Option.some.inj q).symm
    exact ⟨p, od, us, this, hp, hd⟩
  · rw [lookup_putF e] at q
    exact h z v q
end
end DL

/- part -/
set_option Elab.async false
set_option linter.all false
set_option maxRecDepth 100000
set_option maxHeartbeats 1000000
namespace DL
open PySem PySem.Spec PyProof.Rows L2
section
variable {X : Cx}
end
section
variable {P : Program} {w : World} {base : Heap} {N : List Str} {sc : Scope} {j : Nat}
variable {M : Mx} {W : WX} {X : Cx} {F H F' H' F1 H1 F2 H2 H0 : Hp} {σ σ1 : L2.St} {ρ ρ1 ρ2 : SE}
variable {a b c e o : Expr} {ma mb m mo : DM RV} {pos p p' q1 q2 apos cpos bpos : Pos} {x f : Str}
end
end DL

/- part -/
set_option Elab.async false
set_option linter.all false
set_option maxRecDepth 100000
set_option maxHeartbeats 1000000
namespace DL
open PySem PySem.Spec PyProof.Rows L2
section
variable {P : Program} {w : World} {base : Heap} {N : List Str} {sc : Scope} {j : Nat}
variable {M : Mx} {W : WX} {X : Cx} {F H F' H' F1 H1 F2 H2 H0 : Hp} {σ σ1 : L2.St} {ρ ρ1 ρ2 : SE}
variable {a b c e o : Expr} {ma mb m mo : DM RV} {pos p p' q1 q2 px py pt : Pos} {x y : Str}
end
end DL
namespace DL
open PySem PySem.Spec PyProof.Rows L2
section
variable {ρ ρ1 : SE} {i j : Nat} {m mo ma : DM RV} {ds : List D} {d : D} {svs : SE} {ns : List Int} {k : Int} {r : RV} {c : Str} {fs : List (Str × D)}
def btK (svs : SE) (d : D) (o : Option SV) (ρ : SE) : R RV := match o with
  | some (.ow false (.ls ds)) => .ok (.ot ds d) (outs svs ρ)
  | _ => .bad
@[simp] theorem mRet_bt : mRet svs (.rt (.bt i d)) ρ = btK svs d ρ[i]? ρ := rfl
@[simp] theorem btK_ow : btK svs d (some (.ow false (.ls ds))) ρ = .ok (.ot ds d) (outs svs ρ) := rfl
@[simp] theorem mRet_ot : mRet svs (.rt (.ot ds d)) ρ = .ok (.ot ds d) (outs svs ρ) := rfl
@[simp] theorem notBo_ot : notBo (.ot ds d) = true := rfl
@[simp] theorem callR_5 {mf : SE → R RV} {d1 d2 d3 d4 d5 : D} : callR mf [.d d1, .d d2, .d d3, .d d4, .d d5] ρ = retR (mf [.im d1, .im d2, .im d3, .im d4, .im d5]) ρ := callR_no rfl
@[simp] theorem callR_io4' {mf : SE → R RV} {d1 d2 d3 : D} : callR mf [.io i, .d d1, .d d2, .d d3] ρ = retIo (mf [ioSV ρ[i]?, .im d1, .im d2, .im d3]) 0 i ρ := by
  rw [← argSV_eq]
  exact callR_io rfl
@[simp] theorem callR_io5 {mf : SE → R RV} {d1 d2 d3 d4 : D} : callR mf [.io i, .d d1, .d d2, .d d3, .d d4] ρ = retIo (mf [ioSV ρ[i]?, .im d1, .im d2, .im d3, .im d4]) 0 i ρ := by
  rw [← argSV_eq]
  exact callR_io rfl
end
end DL

/- part -/
set_option Elab.async false
set_option linter.all false
set_option maxRecDepth 100000
set_option maxHeartbeats 1000000
namespace DL
open PySem PySem.Spec PyProof.Rows L2
section
variable {P : Program} {w : World} {base : Heap} {N : List Str} {sc : Scope} {j : Nat}
variable {M : Mx} {W : WX} {X : Cx} {F H F' H' F1 H1 F2 H2 H0 : Hp} {σ σ1 : L2.St} {ρ ρ1 ρ2 : SE}
variable {a b : Expr} {ma mb m : DM RV} {pos px py pt pt2 : Pos} {x y : Str}
end
section
variable {ρ ρ2 : SE} {i j : Nat} {ma mb : DM RV} {ds : List D} {d : D}
end
end DL

/- part -/
set_option Elab.async false
set_option linter.all false
set_option maxRecDepth 100000
set_option maxHeartbeats 4000000
namespace DL
open PySem PySem.Spec PyProof.Rows L2
section
variable {P : Program} {w : World} {A : Around} {E : Value → Shared → Prop} {s : Shared}
end
section
variable {M : Mx} {W : WX} {X : Cx} {F H F' H' F1 H1 H0 : Hp} {σ : L2.St} {ρ ρ1 : SE}
variable {P : Program} {w : World} {base : Heap} {N : List Str} {sc : Scope} {j : Nat}
variable {a e : Expr} {ma m : DM RV} {es : List Expr} {pos p p2 q : Pos}
end
section
variable {ns : List Int}
end
end DL

/- part -/
set_option Elab.async false
set_option linter.all false
set_option maxRecDepth 100000
set_option maxHeartbeats 4000000
namespace DL
open PySem PySem.Spec PyProof.Rows L2
section
variable {P : Program} {w : World} {A : Around} {R : Result → Shared → Prop}
open AutoSeq1 (wpAny_loadPart')
open SeqAt MeetsSeq MeetsSeq2 MeetsSeq3 SeqRoads2
end
section
variable {X : Cx} {k : Nat} {C f : Addr} {fd : FuncData} {ps : List Str} {sp : Sp}
end
section
variable {P : Program} {w : World} {base : Heap} {N : List Str} {sc : Scope} {j : Nat}
variable {M : Mx} {W : WX} {X : Cx} {F H F' H' F1 H1 F2 H2 : Hp} {σ : L2.St} {ρ ρ1 ρ2 : SE}
variable {a b : Expr} {ma mb : DM RV} {pos : Pos} {cl : Str} {mm : SE → R RV} {k : Nat}
end
end DL

/- part -/
set_option Elab.async false
set_option linter.all false
set_option maxRecDepth 100000
set_option maxHeartbeats 4000000
namespace DL
open PySem PySem.Spec PyProof.Rows L2 PySem.Froz
def TxR (P : Program) (w : World) (h : Heap) (a : Addr) (l : List Str) : Prop := ∃ D : SD, h.get? a = some (sObj "set" D) ∧ TxOk P w D l ∧ l.Nodup ∧ Ris D.2.2.place.toList ∧ (w.params.followText "set-order" = true ∨ D.2.2.led = true)
section
variable {P : Program} {w : World} {A : Around} {E : Value → Shared → Prop} {s : Shared} {a : Addr} {l : List Str}
theorem TxR.at {h h' : Heap} (R : TxR P w h a l) (k : ∀ o, h.get? a = some o → h'.get? a = some o) : TxR P w h' a l := by
  obtain ⟨D, e, r⟩ := R
  exact ⟨D, k _ e, r⟩
end
section
variable {P : Program} {w : World} {A : Around} {E : Value → Shared → Prop} {s : Shared} {a : Addr} {l : List Str}
end
end DL

/- part -/
set_option Elab.async false
set_option linter.all false
set_option maxRecDepth 100000
set_option maxHeartbeats 4000000
namespace DL
open PySem PySem.Spec PyProof.Rows L2
def LeT (a b : Str) : Prop := a.cps.toList ≤ b.cps.toList
theorem LeT.trans {a b c : Str} (h1 : LeT a b) (h2 : LeT b c) : LeT a c := List.le_trans h1 h2
end DL

/- part -/
set_option Elab.async false
set_option linter.all false
set_option maxRecDepth 100000
set_option maxHeartbeats 4000000
namespace DL
open PySem PySem.Spec PyProof.Rows L2
section
variable {M : Mx} {W : WX} {X : Cx} {F H F' H' F1 H1 H0 : Hp} {σ : L2.St} {ρ ρ1 : SE}
variable {P : Program} {w : World} {base : Heap} {N : List Str} {sc : Scope} {j : Nat}
variable {a e : Expr} {ma m : DM RV} {es : List Expr} {pos p p2 q : Pos}
end
section
variable {ns : List Int} {xs : List Str}
end
end DL

/- part -/
set_option Elab.async false
set_option linter.all false
set_option maxRecDepth 100000
set_option maxHeartbeats 4000000
namespace DL
open PySem PySem.Spec PyProof.Rows L2
def lacks (h : Heap) (a : Addr) : Heap := ⟨h.objs.setIfInBounds a { cls := .none, data := .freed }, h.life⟩
theorem lacks_at {h : Heap} {a : Addr} : (lacks h a).get? a = none := by
  unfold lacks Heap.get?
  by_cases lt : a < h.objs.size
  · simp [Array.getElem?_setIfInBounds, lt]
  · simp [Array.getElem?_setIfInBounds, lt]
theorem lacks_ne {h : Heap} {a b : Addr} (ne : b ≠ a) : (lacks h a).get? b = h.get? b := by
  unfold lacks Heap.get?
  simp only [Array.getElem?_setIfInBounds_ne (Ne.symm ne)]
section
variable {M : Mx} {P : Program} {w : World} {H : Hp} {h : Heap} {a : Addr} {a' : Addr × Obj} {us ws : List V} {ks vs : List D}
theorem dct_at (ok : ObjOk P w H h a (XtO M .dct a' us ws ks vs)) : a'.1 = a := by
  obtain ⟨p, _, st⟩ := ok
  by_cases e : a'.1 = a
  · exact e
  · exfalso
    have q := st h (lacks h a'.1) p fun o ho => by
      rw [lacks_ne (fun z => e z.symm)]
      exact ho
    obtain ⟨ho, _⟩ := (show DctP M.w a' us ws ks vs (lacks h a'.1) from q)
    rw [lacks_at] at ho
    cases ho
theorem dct_ok (ok : ObjOk P w H h a (XtO M .dct a' us ws ks vs)) : h.get? a = some a'.2 ∧ DctF M.w a a'.2 us ws ks := by
  have e := dct_at ok
  obtain ⟨p1, p2⟩ := (show DctP M.w a' us ws ks vs h from ok.1)
  rw [e] at p1 p2
  exact ⟨p1, p2⟩
theorem dct_new {o : Obj} (e : h.get? a = some o) (p : DctF M.w a o us ws ks) : ObjOk P w H h a (XtO M .dct (a, o) us ws ks vs) :=
  ⟨⟨e, p⟩, ⟨o, e⟩, fun h1 h2 ⟨q1, q2⟩ k => ⟨k _ q1, q2⟩⟩
end
mutual
inductive NkV (K : PySem.W.Frag) (H : Hp) : V → NestedKey → Prop
  | non : NkV K H .non .none
  | int (i : Int) : NkV K H (.int i) (.num i)
  | str (x : Str) : NkV K H (.str x) (.text x)
  | tup {a : Addr} {vs : List V} {ks : List NestedKey} : SqT K H a vs → NkVs K H vs ks → NkV K H (.ref a) (.tup ks)
inductive NkVs (K : PySem.W.Frag) (H : Hp) : List V → List NestedKey → Prop
  | nil : NkVs K H [] []
  | cons {v : V} {vs : List V} {k : NestedKey} {ks : List NestedKey} : NkV K H v k → NkVs K H vs ks → NkVs K H (v :: vs) (k :: ks)
end
section
variable {M : Mx} {F H : Hp}
mutual
theorem Rep.nkV (sub : SubF F H) : ∀ (n : Nat) (d : D) (v : V), kOk n d = true → Rep M F v d → NkV M.K H v (nk d) ∧ (nk d).depth ≤ n
  | n, .int i, _, _, r => by
    cases r
    unfold nk
    exact ⟨.int i, by unfold NestedKey.depth; omega⟩
  | n, .str i, _, _, r => by
    cases r
    unfold nk
    exact ⟨.str i, by unfold NestedKey.depth; omega⟩
  | n, .non, _, _, r => by
    cases r
    unfold nk
    exact ⟨.non, by unfold NestedKey.depth; omega⟩
  | 0, .tup ds, _, h, _ => by
    unfold kOk at h
    cases h
  | n + 1, .tup ds, _, h, r => by
    cases r with
    | tup h1 h2 =>
      unfold kOk at h
      obtain ⟨p1, p2⟩ := Reps.nkV sub n ds _ h h2
      unfold nk
      exact ⟨.tup (sub.sqT h1) p1, by unfold NestedKey.depth; omega⟩
  | 0, .bl _, _, h, _ => by
    unfold kOk at h
    cases h
  | n + 1, .bl _, _, h, _ => by
    unfold kOk at h
    cases h
  | 0, .lst _, _, h, _ => by
    unfold kOk at h
    cases h
  | n + 1, .lst _, _, h, _ => by
    unfold kOk at h
    cases h
  | 0, .scr _, _, h, _ => by
    unfold kOk at h
    cases h
  | n + 1, .scr _, _, h, _ => by
    unfold kOk at h
    cases h
  | 0, .tl _ _, _, h, _ => by
    unfold kOk at h
    cases h
  | n + 1, .tl _ _, _, h, _ => by
    unfold kOk at h
    cases h
  | 0, .obj _ _, _, h, _ => by
    unfold kOk at h
    cases h
  | n + 1, .obj _ _, _, h, _ => by
    unfold kOk at h
    cases h
  | 0, .fn _, _, h, _ => by
    unfold kOk at h
    cases h
  | n + 1, .fn _, _, h, _ => by
    unfold kOk at h
    cases h
  | 0, .exc _ _, _, h, _ => by
    unfold kOk at h
    cases h
  | n + 1, .exc _ _, _, h, _ => by
    unfold kOk at h
    cases h
  | 0, .xt _ _ _, _, h, _ => by
    unfold kOk at h
    cases h
  | n + 1, .xt _ _ _, _, h, _ => by
    unfold kOk at h
    cases h
theorem Reps.nkV (sub : SubF F H) : ∀ (n : Nat) (ds : List D) (vs : List V), kOks n ds = true → Reps M F vs ds → NkVs M.K H vs (nks ds) ∧ NestedKey.depthAll (nks ds) ≤ n
  | n, [], _, _, r => by
    cases r
    unfold nks
    exact ⟨.nil, by unfold NestedKey.depthAll; omega⟩
  | n, d :: ds, _, h, r => by
    unfold kOks at h
    obtain ⟨h1, h2⟩ := Bool.and_eq_true_iff.mp h
    cases r with
    | cons r1 r2 =>
      obtain ⟨p1, p2⟩ := Rep.nkV sub n d _ h1 r1
      obtain ⟨q1, q2⟩ := Reps.nkV sub n ds _ h2 r2
      unfold nks
      exact ⟨.cons p1 q1, by unfold NestedKey.depthAll; omega⟩
end
end
section
variable {X : Cx} {pins : List (Addr × Obj)} {σ : L2.St} {H : Hp} {s : Shared}
theorem relV_int {i : Int} {u : Value} (r : RelV (.int i) u) : ∃ t, u = .int i t := r
theorem relV_str {i : Str} {u : Value} (r : RelV (.str i) u) : ∃ t, u = .str i t := r
mutual
theorem NkV.is (I : Inv X pins σ H s) : ∀ (k : NestedKey) (v : V) (u : Value), NkV X.K H v k → RelV v u → NestedIs s.heap k u
  | .none, _, u, h, r => by
    cases h
    cases (show u = Value.none from r)
    exact .none
  | .num i, _, u, h, r => by
    cases h
    obtain ⟨t, rfl⟩ := relV_int r
    exact .int _ _
  | .text x, _, u, h, r => by
    cases h
    obtain ⟨t, rfl⟩ := relV_str r
    exact .text _ _
  | .tup ks, _, u, h, r => by
    cases h with
    | @tup a vs _ h1 h2 =>
      cases (show u = Value.ref a from r)
      obtain ⟨its, rv, ⟨o, ho, hc, n, hd⟩, _⟩ := I.tuple h1
      exact .tup ho hc hd (by simpa using NkVs.are I ks vs its h2 rv)
theorem NkVs.are (I : Inv X pins σ H s) : ∀ (ks : List NestedKey) (vs : List V) (us : List Value), NkVs X.K H vs ks → Vals vs us → NestedAll s.heap ks us
  | [], _, us, h, r => by
    cases h
    cases r
    exact .nil
  | k :: ks, _, us, h, r => by
    cases h with
    | cons h1 h2 =>
      cases r with
      | cons r1 r2 => exact .cons (NkV.is I k _ _ h1 r1) (NkVs.are I ks _ _ h2 r2)
end
end
def fIx (q : NestedKey) : List D → Option Nat
  | [] => none
  | k :: ks => if nk k = q then some 0 else (fIx q ks).map (· + 1)
theorem fIx_lt {q : NestedKey} : ∀ {ks : List D} {i : Nat}, fIx q ks = some i → i < ks.length
  | k :: ks, i, h => by
    unfold fIx at h
    split at h
    · cases h
      simp
    · obtain ⟨j, hj, rfl⟩ := Option.map_eq_some_iff.mp h
      have := fIx_lt hj
      simp
      omega
theorem fIx_none {q : NestedKey} : ∀ {ks : List D}, fIx q ks = none → ∀ k ∈ ks, nk k ≠ q
  | k :: ks, h, x, hx => by
    unfold fIx at h
    split at h
    · cases h
    · rename_i ne
      rcases List.mem_cons.mp hx with rfl | hx
      · exact ne
      · exact fIx_none (Option.map_eq_none_iff.mp h) x hx
def putKs (k : D) (ks : List D) : List D := match fIx (nk k) ks with
  | some _ => ks
  | none => ks ++ [k]
def putVs {α : Type} (k : D) (ks : List D) (v : α) (vs : List α) : List α := match fIx (nk k) ks with
  | some i => vs.set i v
  | none => vs ++ [v]
def putUs {α : Type} (k : D) (ks : List D) (u : α) (us : List α) : List α := match fIx (nk k) ks with
  | some _ => us
  | none => us ++ [u]
theorem KsOk.put {ks : List D} {k : D} (h : KsOk ks) (hk : kOk 8 k = true) (so : (leafD k = true ∧ ∀ z ∈ ks, leafD z = true) ∨ (isTupD k = true ∧ ∀ z ∈ ks, isTupD z = true)) : KsOk (putKs k ks) := by
  unfold putKs
  split
  · exact h
  · rename_i e
    obtain ⟨h1, h2, h3⟩ := h
    refine ⟨?_, fun z hz => ?_, ?_⟩
    · rw [List.map_append, List.nodup_append]
      refine ⟨h1, List.pairwise_singleton _ _, fun x hx y hy ee => ?_⟩
      obtain ⟨z, hz, rfl⟩ := List.mem_map.mp hx
      rw [List.map_singleton, List.mem_singleton] at hy
      subst hy
      exact fIx_none e z hz ee
    · rcases List.mem_append.mp hz with hz | hz
      · exact h2 z hz
      · rw [List.mem_singleton.mp hz]
        exact hk
    · rcases so with ⟨a, b⟩ | ⟨a, b⟩
      · refine .inl fun z hz => ?_
        rcases List.mem_append.mp hz with hz | hz
        · exact b z hz
        · rw [List.mem_singleton.mp hz]
          exact a
      · refine .inr fun z hz => ?_
        rcases List.mem_append.mp hz with hz | hz
        · exact b z hz
        · rw [List.mem_singleton.mp hz]
          exact a
theorem put_len {α : Type} {k : D} {ks : List D} {v : α} {vs : List α} (h : vs.length = ks.length) : (putVs k ks v vs).length = (putKs k ks).length ∧ (putKs k ks).length ≤ ks.length + 1 := by
  unfold putVs putKs
  split
  · exact ⟨by rw [List.length_set]; exact h, by omega⟩
  · exact ⟨by simp [h], by simp⟩
theorem put_lenU {α : Type} {k : D} {ks : List D} {v : α} {vs : List α} (h : vs.length = ks.length) : (putUs k ks v vs).length = (putKs k ks).length := by
  unfold putUs putKs
  split
  · exact h
  · simp [h]
end DL

/- part -/
set_option Elab.async false
set_option linter.all false
set_option maxRecDepth 100000
set_option maxHeartbeats 4000000
namespace DL
open PySem PySem.Spec PyProof.Rows L2
def tri : List D → List Value → List Value → List (NestedKey × Addr × Value)
  | k :: ks, .ref b :: xs, y :: ys => (nk k, b, y) :: tri ks xs ys
  | _, _, _ => []
inductive Refs : List Value → Prop
  | nil : Refs []
  | cons {b : Addr} {xs : List Value} : Refs xs → Refs (.ref b :: xs)
theorem Refs.set {b : Addr} : ∀ {xs : List Value} (h : Refs xs), Refs (xs ++ [.ref b])
  | _, .nil => .cons .nil
  | _, .cons h => .cons (Refs.set h)
section
variable {P : Program} {w : World}
theorem tri_ent : ∀ {ks : List D} {xs ys : List Value}, Refs xs → entL w ks xs ys = (tri ks xs ys).map (entryOfKey (nestedKind P w))
  | [], _, _, _ => rfl
  | _ :: _, _, _, .nil => rfl
  | _ :: _, _, [], .cons _ => rfl
  | k :: ks, _, y :: ys, .cons h => by
    show _ :: entL w ks _ ys = _ :: (tri ks _ ys).map _
    rw [tri_ent h]
    rfl
theorem tri_keys : ∀ {ks : List D} {xs ys : List Value}, Refs xs → xs.length = ks.length → ys.length = ks.length → (tri ks xs ys).map (·.1) = ks.map nk
  | [], _, _, _, _, _ => rfl
  | _ :: _, _, _, .nil, h, _ => by simp at h
  | _ :: _, _, [], .cons _, _, h => by simp at h
  | k :: ks, _, y :: ys, .cons h, h1, h2 => by
    show nk k :: (tri ks _ ys).map _ = nk k :: ks.map nk
    rw [tri_keys h (by simpa using h1) (by simpa using h2)]
theorem tri_len {ks : List D} {xs ys : List Value} (h : Refs xs) (h1 : xs.length = ks.length) (h2 : ys.length = ks.length) : (tri ks xs ys).length = ks.length := by
  have := congrArg List.length (tri_keys h h1 h2)
  simpa using this
theorem tri_at {q : NestedKey} : ∀ {ks : List D} {xs ys : List Value}, Refs xs → xs.length = ks.length → ys.length = ks.length → (atKey (tri ks xs ys) q).map (·.2) = (fIx q ks).bind fun i => ys[i]?
  | [], _, _, _, _, _ => rfl
  | _ :: _, _, _, .nil, h, _ => by simp at h
  | _ :: _, _, [], .cons _, _, h => by simp at h
  | k :: ks, _, y :: ys, @Refs.cons b xs h, h1, h2 => by
    have ih := tri_at (q := q) h (by simpa using h1) (by simpa using h2) (ks := ks) (ys := ys)
    unfold fIx
    show (atKey ((nk k, b, y) :: tri ks xs ys) q).map (·.2) = _
    unfold atKey at ih ⊢
    rw [List.find?_cons]
    by_cases e : nk k = q
    · simp [e]
    · simp only [decide_eq_false e, if_neg e]
      rw [ih]
      cases fIx q ks with
      | none => rfl
      | some i => simp
theorem tri_set {q : NestedKey} {u : Value} : ∀ {ks : List D} {xs ys : List Value} {i : Nat}, Refs xs → xs.length = ks.length → ys.length = ks.length → (ks.map nk).Nodup → fIx q ks = some i → (tri ks xs ys).map (putAt q u) = tri ks xs (ys.set i u)
  | [], _, _, _, _, _, _, _, h => by cases h
  | _ :: _, _, _, _, .nil, h, _, _, _ => by simp at h
  | _ :: _, _, [], _, .cons _, _, h, _, _ => by simp at h
  | k :: ks, _, y :: ys, i, @Refs.cons b xs h, h1, h2, nd, hi => by
    rw [List.map_cons, List.nodup_cons] at nd
    unfold fIx at hi
    show putAt q u (nk k, b, y) :: (tri ks xs ys).map (putAt q u) = _
    split at hi
    · rename_i e
      cases hi
      have rest : ∀ (l : List (NestedKey × Addr × Value)), (∀ z ∈ l, z.1 ≠ q) → l.map (putAt q u) = l := fun l hl => by
        induction l with
        | nil => rfl
        | cons z l ih =>
          rw [List.map_cons, ih fun z hz => hl z (List.mem_cons_of_mem _ hz)]
          unfold putAt
          rw [if_neg (hl z List.mem_cons_self)]
      have hk := tri_keys h (by simpa using h1) (by simpa using h2) (ks := ks) (ys := ys)
      rw [rest (tri ks xs ys) fun z hz e2 => nd.1 (by
        rw [← hk, e, ← e2]
        exact List.mem_map.mpr ⟨z, hz, rfl⟩)]
      unfold putAt
      rw [if_pos e]
      rfl
    · rename_i e
      obtain ⟨j, hj, rfl⟩ := Option.map_eq_some_iff.mp hi
      rw [tri_set h (by simpa using h1) (by simpa using h2) nd.2 hj]
      unfold putAt
      rw [if_neg e]
      rfl
theorem tri_snoc {k : D} {b : Addr} {u : Value} : ∀ {ks : List D} {xs ys : List Value}, Refs xs → xs.length = ks.length → ys.length = ks.length → tri (ks ++ [k]) (xs ++ [.ref b]) (ys ++ [u]) = tri ks xs ys ++ [(nk k, b, u)]
  | [], _, [], .nil, _, _ => rfl
  | [], _, _ :: _, _, _, h => by simp at h
  | [], _, _, .cons _, h, _ => by simp at h
  | _ :: _, _, _, .nil, h, _ => by simp at h
  | _ :: _, _, [], .cons _, _, h => by simp at h
  | k0 :: ks, _, y :: ys, @Refs.cons b' xs h, h1, h2 => by
    show _ :: tri (ks ++ [k]) (xs ++ [.ref b]) (ys ++ [u]) = _ :: (tri ks xs ys ++ _)
    rw [tri_snoc h (by simpa using h1) (by simpa using h2)]
theorem tri_put {k : D} {b : Addr} {u : Value} {ks : List D} {xs ys : List Value} (h : Refs xs) (h1 : xs.length = ks.length) (h2 : ys.length = ks.length) (nd : (ks.map nk).Nodup) : storedH (tri ks xs ys) (nk k) b u = tri (putKs k ks) (putUs k ks (.ref b) xs) (putVs k ks u ys) := by
  have e := tri_at (q := nk k) h h1 h2
  unfold storedH putKs putUs putVs
  cases hi : fIx (nk k) ks with
  | none =>
    rw [hi] at e
    have e : (atKey (tri ks xs ys) (nk k)).map (·.2) = none := e
    rw [if_neg (by rw [Option.map_eq_none_iff.mp e]; decide)]
    exact (tri_snoc h h1 h2).symm
  | some i =>
    rw [hi] at e
    have lt := fIx_lt hi
    have e : (atKey (tri ks xs ys) (nk k)).map (·.2) = ys[i]? := e
    rw [List.getElem?_eq_getElem (by omega)] at e
    obtain ⟨p, hp, _⟩ := Option.map_eq_some_iff.mp e
    rw [if_pos (by rw [hp]; rfl)]
    exact tri_set h h1 h2 nd hi
end
def lk : D → Key
  | .int i => .inl i
  | .str x => .inr x
  | _ => .inl 0
def lvV : D → V
  | .int i => .int i
  | .str x => .str x
  | _ => .non
def duo : List D → List Value → List (Key × Value)
  | k :: ks, y :: ys => (lk k, y) :: duo ks ys
  | _, _ => []
theorem leaf_nk {d e : D} (h1 : leafD d = true) (h2 : leafD e = true) : nk d = nk e ↔ lk d = lk e := by
  cases d <;> first
    | (unfold leafD at h1; cases h1; done)
    | skip
  all_goals cases e <;> first
    | (unfold leafD at h2; cases h2; done)
    | skip
  all_goals simp [nk, lk]
theorem leaf_kV {d : D} (h : leafD d = true) : kV (lk d) = lvV d := by
  cases d <;> first
    | (unfold leafD at h; cases h; done)
    | rfl
theorem leaf_hash {w : World} {d : D} (h : leafD d = true) : (nk d).hash w = keyH w (lk d) := by
  cases d <;> first
    | (unfold leafD at h; cases h; done)
    | skip
  all_goals simp [nk, lk, NestedKey.hash, keyH]
theorem leaf_rep {M : Mx} {F : Hp} {d : D} {v : V} (h : leafD d = true) (r : Rep M F v d) : v = lvV d := by
  cases r <;> first
    | rfl
    | (unfold leafD at h; cases h)
theorem leaf_reps {M : Mx} {F : Hp} : ∀ {ks : List D} {us : List V}, (∀ k ∈ ks, leafD k = true) → Reps M F us ks → us = ks.map lvV
  | _, _, _, .nil => rfl
  | _, _, h, .cons r t => by
    rw [leaf_rep (h _ List.mem_cons_self) r, leaf_reps (fun k hk => h k (List.mem_cons_of_mem _ hk)) t]
    rfl
section
variable {P : Program} {w : World}
theorem duo_keys : ∀ {ks : List D} {ys : List Value}, ys.length = ks.length → (duo ks ys).map (·.1) = ks.map lk
  | [], _, _ => rfl
  | _ :: _, [], h => by simp at h
  | k :: ks, y :: ys, h => by
    show lk k :: (duo ks ys).map _ = _
    rw [duo_keys (by simpa using h)]
    rfl
theorem duo_len {ks : List D} {ys : List Value} (h : ys.length = ks.length) : (duo ks ys).length = ks.length := by
  have := congrArg List.length (duo_keys h)
  simpa using this
theorem duo_pairs : ∀ {ks : List D} {xs ys : List Value}, (∀ k ∈ ks, leafD k = true) → Vals (ks.map lvV) xs → ys.length = ks.length → Pairs (mixKind P w) (entL w ks xs ys) (duo ks ys)
  | [], _, _, _, _, _ => .nil
  | _ :: _, _, [], _, _, h => by simp at h
  | k :: ks, _, y :: ys, h, .cons r t, h2 => by
    refine .cons ?_ rfl (duo_pairs (fun k hk => h k (List.mem_cons_of_mem _ hk)) t (by simpa using h2))
    have := h k List.mem_cons_self
    exact kV_is (by rw [leaf_kV this]; exact r)
theorem duo_keysOf {ks : List D} {xs ys : List Value} (h : ∀ k ∈ ks, leafD k = true) (r : Vals (ks.map lvV) xs) (h2 : ys.length = ks.length) : KeysOf (mixKind P w) (entL w ks xs ys).toArray := by
  have main : ∀ {ks : List D} {xs ys : List Value}, (∀ k ∈ ks, leafD k = true) → Vals (ks.map lvV) xs → ∀ e ∈ entL w ks xs ys, ∃ k, (mixKind P w).is k e.key = true ∧ e.hash = (mixKind P w).hash k := by
    intro ks
    induction ks with
    | nil =>
      intro xs ys h r e he
      cases he
    | cons k ks ih =>
      intro xs ys h r e he
      cases r with
      | cons r t =>
        cases ys with
        | nil => cases he
        | cons y ys =>
          rcases List.mem_cons.mp he with rfl | he
          · have := h k List.mem_cons_self
            exact ⟨lk k, kV_is (by rw [leaf_kV this]; exact r), leaf_hash this⟩
          · exact ih (fun k hk => h k (List.mem_cons_of_mem _ hk)) t e he
  intro e he
  exact main h r e (by simpa using he)
theorem leaf_nodup : ∀ {ks : List D}, (∀ k ∈ ks, leafD k = true) → ((ks.map nk).Nodup ↔ (ks.map lk).Nodup)
  | [], _ => by simp
  | k :: ks, h => by
    have hk := h k List.mem_cons_self
    have ht : ∀ z ∈ ks, leafD z = true := fun z hz => h z (List.mem_cons_of_mem _ hz)
    rw [List.map_cons, List.map_cons, List.nodup_cons, List.nodup_cons, leaf_nodup ht]
    refine and_congr_left fun _ => not_congr ?_
    simp only [List.mem_map]
    exact ⟨fun ⟨z, hz, e⟩ => ⟨z, hz, (leaf_nk (ht z hz) hk).mp e⟩, fun ⟨z, hz, e⟩ => ⟨z, hz, (leaf_nk (ht z hz) hk).mpr e⟩⟩
theorem duo_at {k : D} (hk : leafD k = true) : ∀ {ks : List D} {ys : List Value}, (∀ k ∈ ks, leafD k = true) → ys.length = ks.length → valueAt (duo ks ys) (lk k) = (fIx (nk k) ks).bind fun i => ys[i]?
  | [], _, _, _ => rfl
  | _ :: _, [], _, h => by simp at h
  | z :: ks, y :: ys, h, h2 => by
    have ih := duo_at hk (ks := ks) (ys := ys) (fun k hk => h k (List.mem_cons_of_mem _ hk)) (by simpa using h2)
    unfold valueAt at ih ⊢
    show ((List.find? _ ((lk z, y) :: duo ks ys)).map _) = _
    unfold fIx
    rw [List.find?_cons]
    by_cases e : nk z = nk k
    · simp [e, (leaf_nk (h z List.mem_cons_self) hk).mp e]
    · have e2 : ¬ lk z = lk k := fun q => e ((leaf_nk (h z List.mem_cons_self) hk).mpr q)
      simp only [decide_eq_false e2, if_neg e]
      rw [ih]
      cases fIx (nk k) ks with
      | none => rfl
      | some i => simp
theorem duo_snoc {k : D} {u : Value} : ∀ {ks : List D} {ys : List Value}, ys.length = ks.length → duo (ks ++ [k]) (ys ++ [u]) = duo ks ys ++ [(lk k, u)]
  | [], [], _ => rfl
  | [], _ :: _, h => by simp at h
  | _ :: _, [], h => by simp at h
  | z :: ks, y :: ys, h => by
    show _ :: duo (ks ++ [k]) (ys ++ [u]) = _ :: (duo ks ys ++ _)
    rw [duo_snoc (by simpa using h)]
theorem duo_set {k : D} (hk : leafD k = true) {u : Value} : ∀ {ks : List D} {ys : List Value} {i : Nat}, (∀ k ∈ ks, leafD k = true) → ys.length = ks.length → (ks.map nk).Nodup → fIx (nk k) ks = some i → ((duo ks ys).map fun kv => if kv.1 = lk k then (kv.1, u) else kv) = duo ks (ys.set i u)
  | [], _, _, _, _, _, h => by cases h
  | _ :: _, [], _, _, h, _, _ => by simp at h
  | z :: ks, y :: ys, i, h, h2, nd, hi => by
    rw [List.map_cons, List.nodup_cons] at nd
    unfold fIx at hi
    show (if lk z = lk k then _ else _) :: (duo ks ys).map _ = _
    split at hi
    · rename_i e
      cases hi
      have rest : ∀ (l : List (Key × Value)), (∀ p ∈ l, p.1 ≠ lk k) → (l.map fun kv => if kv.1 = lk k then (kv.1, u) else kv) = l := fun l hl => by
        induction l with
        | nil => rfl
        | cons p l ih =>
          rw [List.map_cons, ih fun p hp => hl p (List.mem_cons_of_mem _ hp), if_neg (hl p List.mem_cons_self)]
      rw [rest (duo ks ys) fun p hp e2 => ?_, if_pos ((leaf_nk (h z List.mem_cons_self) hk).mp e)]
      · rfl
      · have : lk k ∈ ks.map lk := by
          rw [← duo_keys (ys := ys) (by simpa using h2), ← e2]
          exact List.mem_map.mpr ⟨p, hp, rfl⟩
        obtain ⟨x, hx, ex⟩ := List.mem_map.mp this
        exact nd.1 (List.mem_map.mpr ⟨x, hx, ((leaf_nk (h x (List.mem_cons_of_mem _ hx)) hk).mpr ex).trans e.symm⟩)
    · rename_i e
      obtain ⟨j, hj, rfl⟩ := Option.map_eq_some_iff.mp hi
      rw [duo_set hk (fun k hk => h k (List.mem_cons_of_mem _ hk)) (by simpa using h2) nd.2 hj, if_neg fun q => e ((leaf_nk (h z List.mem_cons_self) hk).mpr q)]
      rfl
theorem duo_put {k : D} (hk : leafD k = true) {u : Value} {ks : List D} {ys : List Value} (h : ∀ k ∈ ks, leafD k = true) (h2 : ys.length = ks.length) (nd : (ks.map nk).Nodup) : stored (duo ks ys) (lk k) u = duo (putKs k ks) (putVs k ks u ys) := by
  have e := duo_at hk h h2
  have an : ∀ (l : List (Key × Value)), (l.any fun kv => decide (kv.1 = lk k)) = (valueAt l (lk k)).isSome := fun l => by
    unfold valueAt
    induction l with
    | nil => rfl
    | cons p l ih =>
      rw [List.any_cons, List.find?_cons]
      by_cases q : p.1 = lk k
      · simp [q]
      · simp only [decide_eq_false q, Bool.false_or]
        exact ih
  unfold stored putKs putVs
  cases hi : fIx (nk k) ks with
  | none =>
    rw [hi] at e
    rw [if_neg (by rw [an, e]; exact Bool.false_ne_true)]
    exact (duo_snoc h2).symm
  | some i =>
    rw [hi] at e
    have lt := fIx_lt hi
    have e : valueAt (duo ks ys) (lk k) = ys[i]? := e
    rw [List.getElem?_eq_getElem (by omega)] at e
    rw [if_pos (by rw [an, e]; rfl)]
    exact duo_set hk h h2 nd hi
theorem duo_back : ∀ {ks : List D} {ys : List Value} {es : List DictEntry}, (∀ k ∈ ks, leafD k = true) → ys.length = ks.length → Pairs (mixKind P w) es (duo ks ys) → (∀ e ∈ es, ∃ k, (mixKind P w).is k e.key = true ∧ e.hash = (mixKind P w).hash k) → ∃ xs, Vals (ks.map lvV) xs ∧ es = entL w ks xs ys
  | [], [], _, _, _, .nil, _ => ⟨[], .nil, rfl⟩
  | [], _ :: _, _, _, h, _, _ => by simp at h
  | _ :: _, [], _, _, h, _, _ => by simp at h
  | k :: ks, y :: ys, _, h, h2, .cons (e := e) (es := es) p1 p2 p3, ko => by
    obtain ⟨xs, g1, g2⟩ := duo_back (fun k hk => h k (List.mem_cons_of_mem _ hk)) (by simpa using h2) p3 fun e he => ko e (List.mem_cons_of_mem _ he)
    have hk := h k List.mem_cons_self
    have p1 : (mixKind P w).is (lk k) e.key = true := p1
    have rv : RelV (lvV k) e.key := by
      rw [← leaf_kV hk]
      exact relV_key p1
    refine ⟨e.key :: xs, .cons rv g1, ?_⟩
    obtain ⟨k', q1, q2⟩ := ko e List.mem_cons_self
    have ek : k' = lk k := (mixKind P w).inj _ _ _ q1 p1
    subst ek
    have hh : e.hash = (nk k).hash w := by
      rw [leaf_hash hk]
      exact q2
    rw [g2]
    show e :: _ = ⟨_, _, _⟩ :: _
    have p2 : e.val = y := p2
    rw [← hh, ← p2]
end
end DL

/- part -/
set_option Elab.async false
set_option linter.all false
set_option maxRecDepth 100000
set_option maxHeartbeats 4000000
namespace DL
open PySem PySem.Spec PyProof.Rows L2
def SoOk (k : D) (ks : List D) : Prop := (leafD k = true ∧ ∀ z ∈ ks, leafD z = true) ∨ (isTupD k = true ∧ ∀ z ∈ ks, isTupD z = true)
mutual
theorem kOk_depth : ∀ (n : Nat) (d : D), kOk n d = true → (nk d).depth ≤ n
  | n, .int i, _ => by simp [nk, NestedKey.depth]
  | n, .str i, _ => by simp [nk, NestedKey.depth]
  | n, .non, _ => by simp [nk, NestedKey.depth]
  | 0, .tup ds, h => by
    unfold kOk at h
    cases h
  | n + 1, .tup ds, h => by
    unfold kOk at h
    have := kOks_depth n ds h
    unfold nk NestedKey.depth
    omega
  | n, .bl _, _ => by simp [nk, NestedKey.depth]
  | n, .lst _, _ => by simp [nk, NestedKey.depth]
  | n, .scr _, _ => by simp [nk, NestedKey.depth]
  | n, .tl _ _, _ => by simp [nk, NestedKey.depth]
  | n, .obj _ _, _ => by simp [nk, NestedKey.depth]
  | n, .fn _, _ => by simp [nk, NestedKey.depth]
  | n, .exc _ _, _ => by simp [nk, NestedKey.depth]
  | n, .xt _ _ _, _ => by simp [nk, NestedKey.depth]
theorem kOks_depth : ∀ (n : Nat) (ds : List D), kOks n ds = true → NestedKey.depthAll (nks ds) ≤ n
  | n, [], _ => by simp [nks, NestedKey.depthAll]
  | n, d :: ds, h => by
    unfold kOks at h
    obtain ⟨h1, h2⟩ := Bool.and_eq_true_iff.mp h
    have a := kOk_depth n d h1
    have b := kOks_depth n ds h2
    unfold nks NestedKey.depthAll
    omega
end
theorem nkV_leaf {K : PySem.W.Frag} {H : Hp} {k : D} {y : V} (h : leafD k = true) (n : NkV K H y (nk k)) : y = lvV k := by
  cases k <;> first
    | (unfold leafD at h; cases h; done)
    | skip
  all_goals
    unfold nk at n
    cases n
    rfl
theorem nkVs_leaf {K : PySem.W.Frag} {H : Hp} : ∀ {ks : List D} {us : List V}, (∀ k ∈ ks, leafD k = true) → NkVs K H us (ks.map nk) → us = ks.map lvV
  | [], _, _, .nil => rfl
  | k :: ks, _, h, .cons r t => by
    rw [nkV_leaf (h k List.mem_cons_self) r, nkVs_leaf (fun z hz => h z (List.mem_cons_of_mem _ hz)) t]
    rfl
theorem nkV_tup {K : PySem.W.Frag} {H : Hp} {k : D} {y : V} (h : isTupD k = true) (n : NkV K H y (nk k)) : ∃ b, y = .ref b := by
  cases k <;> first
    | (unfold isTupD at h; cases h; done)
    | skip
  unfold nk at n
  cases n
  exact ⟨_, rfl⟩
theorem nkVs_tup {K : PySem.W.Frag} {H : Hp} : ∀ {ks : List D} {us : List V} {xs : List Value}, (∀ k ∈ ks, isTupD k = true) → NkVs K H us (ks.map nk) → Vals us xs → Refs xs
  | [], _, _, _, .nil, .nil => .nil
  | k :: ks, _, _, h, .cons r t, .cons rv tv => by
    obtain ⟨b, rfl⟩ := nkV_tup (h k List.mem_cons_self) r
    cases (show _ = Value.ref b from rv)
    exact .cons (nkVs_tup (fun z hz => h z (List.mem_cons_of_mem _ hz)) t tv)
structure KeyAt (M : Mx) (H : Hp) (a : Addr) (us ws : List V) (ks vs : List D) (y : V) (k : D) : Prop where
  at_ : ∃ a' : Addr × Obj, H a = some (XtO M .dct a' us ws ks vs)
  nus : NkVs M.K H us (ks.map nk)
  ny : NkV M.K H y (nk k)
  ok : kOk 8 k = true
  so : SoOk k ks
section
variable {M : Mx} {X : Cx} {pins : List (Addr × Obj)} {σ : L2.St} {H : Hp} {s : Shared} {a : Addr} {us ws : List V} {ks vs : List D} {y v : V} {k : D} {u r : Value} {A : Around} {E : Value → Shared → Prop}
theorem dctP_of (hW : M.w = X.w) (I : Inv X pins σ H s) (h : ∃ a' : Addr × Obj, H a = some (XtO M .dct a' us ws ks vs)) :
    (a == sysModules) = false ∧ KsOk ks ∧ us.length = ks.length ∧ ws.length = ks.length ∧ ks.length ≤ 1000000 ∧ ∃ (xs ys : List Value) (ep : Nat), Vals us xs ∧ Vals ws ys ∧ s.heap.DictRaw a (entL X.w ks xs ys).toArray ep := by
  obtain ⟨a', e⟩ := h
  rw [← hW]
  obtain ⟨p1, q1, q2, q3, q4, q5, xs, ys, ep, r1, r2, hc, hd⟩ := dct_ok (I.hok a _ e)
  exact ⟨q1, q2, q3, q4, q5, xs, ys, ep, r1, r2, _, p1, hc, hd⟩
theorem leaf_of (hW : M.w = X.w) (hK : M.K = X.K) (I : Inv X pins σ H s) (g : KeyAt M H a us ws ks vs y k) (lf : leafD k = true) (la : ∀ z ∈ ks, leafD z = true) (ry : RelV y u) :
    (a == sysModules) = false ∧ KsOk ks ∧ ws.length = ks.length ∧ ks.length ≤ 1000000 ∧ (mixKind X.prog X.w).is (lk k) u = true ∧ ∃ ys, Vals ws ys ∧ s.heap.DictOf (mixKind X.prog X.w) a (duo ks ys) ∧ ys.length = ks.length := by
  obtain ⟨q1, q2, q3, q4, q5, xs, ys, ep, r1, r2, o, ho, hc, hd⟩ := dctP_of hW I g.at_
  have eu := nkVs_leaf la g.nus
  have ey := nkV_leaf lf g.ny
  subst eu ey
  have ly : ys.length = ks.length := by rw [← r2.length]; exact q4
  refine ⟨q1, q2, q4, q5, kV_is (by rw [leaf_kV lf]; exact ry), ys, r2, ⟨o, _, ep, ho, hc, hd, duo_keysOf la r1 ly, by simpa using duo_pairs la r1 ly, ?_⟩, ly⟩
  rw [duo_keys ly]
  exact (leaf_nodup la).mp q2.1
theorem all_is (I : Inv X pins σ H s) : ∀ {ks : List D} {us : List V} {xs ys : List Value}, (∀ k ∈ ks, kOk 8 k = true) → NkVs X.K H us (ks.map nk) → Vals us xs → ∀ z ∈ tri ks xs ys, (nestedKind X.prog X.w).is s.heap z.1 z.2.1
  | [], _, _, _, _, _, _, z, hz => by cases hz
  | k :: ks, _, _, [], _, .cons r t, .cons rv tv, z, hz => by
    rename_i b bs
    cases b <;> cases hz
  | k :: ks, _, _, y :: ys, h, .cons r t, .cons rv tv, z, hz => by
    have ih := all_is I (ys := ys) (fun z hz => h z (List.mem_cons_of_mem _ hz)) t tv
    have is1 := NkV.is I _ _ _ r rv
    rename_i b bs
    cases b with
    | ref b =>
      rcases List.mem_cons.mp hz with rfl | hz
      · exact ⟨is1, kOk_depth 8 k (h k List.mem_cons_self)⟩
      · exact ih z hz
    | _ => cases hz
theorem tup_of (hW : M.w = X.w) (hK : M.K = X.K) (I : Inv X pins σ H s) (g : KeyAt M H a us ws ks vs y k) (lf : isTupD k = true) (la : ∀ z ∈ ks, isTupD z = true) (ry : RelV y u) :
    (a == sysModules) = false ∧ KsOk ks ∧ ws.length = ks.length ∧ ks.length ≤ 1000000 ∧ ∃ b, y = .ref b ∧ u = .ref b ∧ (nestedKind X.prog X.w).is s.heap (nk k) b ∧ ∃ xs ys, Refs xs ∧ Vals us xs ∧ Vals ws ys ∧ s.heap.DictOfH (nestedKind X.prog X.w) a (tri ks xs ys) ∧ xs.length = ks.length ∧ ys.length = ks.length := by
  obtain ⟨q1, q2, q3, q4, q5, xs, ys, ep, r1, r2, o, ho, hc, hd⟩ := dctP_of hW I g.at_
  obtain ⟨b, rfl⟩ := nkV_tup lf g.ny
  cases (show u = Value.ref b from ry)
  have ly : ys.length = ks.length := by rw [← r2.length]; exact q4
  have lx : xs.length = ks.length := by rw [← r1.length]; exact q3
  have rf := nkVs_tup la g.nus r1
  have nus := g.nus
  have ny := g.ny
  rw [hK] at nus ny
  refine ⟨q1, q2, q4, q5, b, rfl, rfl, ⟨NkV.is I _ _ _ ny rfl, kOk_depth 8 k g.ok⟩, xs, ys, rf, r1, r2, ⟨o, _, ep, ho, hc, hd, ?_, all_is I q2.2.1 nus r1, ?_⟩, lx, ly⟩
  · rw [List.toList_toArray]
    exact tri_ent rf
  · rw [tri_keys rf lx ly]
    exact q2.1
theorem val_ix {i : Nat} {ys : List Value} (r : Vals ws ys) (h : ws[i]? = some v) : ∃ z, ys[i]? = some z ∧ RelV v z := r.get h
theorem x_getItem {i : Nat} {Q : Value → Shared → Prop} (hW : M.w = X.w) (hK : M.K = X.K) (hu : A.units + 64 < cLine) (I : Inv X pins σ H s) (g : KeyAt M H a us ws ks vs y k) (hi : fIx (nk k) ks = some i) (hv : ws[i]? = some v) (ry : RelV y u) (h : ∀ w' s', Inv X pins σ H s' → RelV v w' → Q w' s') :
    wpAny (model X.prog X.w) A (getItem (.ref a) u) Q E s := by
  rcases g.so with ⟨lf, la⟩ | ⟨lf, la⟩
  · obtain ⟨q1, q2, q4, q5, is, ys, r2, dd, ly⟩ := leaf_of hW hK I g lf la ry
    obtain ⟨z, hz, rz⟩ := val_ix r2 hv
    refine wpAny_getItem_of is dd.mapOf ?_ (h z _ (I.tok _) rz)
    rw [duo_at lf la ly, hi]
    exact hz
  · obtain ⟨q1, q2, q4, q5, b, rfl, rfl, is, xs, ys, rf, r1, r2, dd, lx, ly⟩ := tup_of hW hK I g lf la ry
    obtain ⟨z, hz, rz⟩ := val_ix r2 hv
    have e := tri_at (q := nk k) rf lx ly
    rw [hi] at e
    obtain ⟨p, hp, hp2⟩ := Option.map_eq_some_iff.mp (e.trans hz)
    refine wpAny_getItem_heap (by show A.in1.units + 8 < cLine; rw [Around.in1_units]; omega) is dd hp ?_
    rw [hp2]
    exact h z _ (I.tok _) rz
theorem x_notIn {Q : Value → Shared → Prop} (hW : M.w = X.w) (hK : M.K = X.K) (hu : A.units + 64 < cLine) (I : Inv X pins σ H s) (g : KeyAt M H a us ws ks vs y k) (ry : RelV y u) (h : ∀ s', Inv X pins σ H s' → Q (.bool (!(fIx (nk k) ks).isSome)) s') :
    wpAny (model X.prog X.w) A (compareOp .NotIn u (.ref a)) Q E s := by
  have has : ∀ {ys : List Value}, ys.length = ks.length → ((fIx (nk k) ks).bind fun i => ys[i]?).isSome = (fIx (nk k) ks).isSome := fun {ys} ly => by
    cases e : fIx (nk k) ks with
    | none => rfl
    | some i =>
      have := fIx_lt e
      show (ys[i]?).isSome = true
      rw [List.getElem?_eq_getElem (by omega)]
      rfl
  rcases g.so with ⟨lf, la⟩ | ⟨lf, la⟩
  · obtain ⟨q1, q2, q4, q5, is, ys, r2, dd, ly⟩ := leaf_of hW hK I g lf la ry
    refine wpAny_notIn_of is q1 dd.mapOf ?_
    rw [duo_at lf la ly, has ly]
    exact h _ (I.tok _)
  · obtain ⟨q1, q2, q4, q5, b, rfl, rfl, is, xs, ys, rf, r1, r2, dd, lx, ly⟩ := tup_of hW hK I g lf la ry
    have e := congrArg Option.isSome (tri_at (q := nk k) rf lx ly)
    rw [Option.isSome_map, has ly] at e
    refine wpAny_notIn_heap (by show A.in1.units + 8 < cLine; rw [Around.in1_units]; omega) is q1 dd ?_
    rw [e]
    exact h _ (I.tok _)
theorem vals_put {α : Type} : ∀ {ks : List D} {us : List V} {xs : List Value} {y : V} {u : Value}, Vals us xs → RelV y u → Vals (putUs k ks y us) (putUs k ks u xs) := fun {ks us xs y u} r ry => by
  unfold putUs
  split
  · exact r
  · exact Paired.snoc r ry
theorem vals_putV {ws : List V} {ys : List Value} {v : V} {r : Value} (rw_ : Vals ws ys) (rv : RelV v r) : Vals (putVs k ks v ws) (putVs k ks r ys) := by
  unfold putVs
  split
  · exact Vals.set rv _ rw_
  · exact Paired.snoc rw_ rv
theorem x_stored (hW : M.w = X.w) {h' : Heap} {t' : Nat} {vs' : List D} {o' : Obj} (I : Inv X pins σ H s) (g : KeyAt M H a us ws ks vs y k) (hs : Heap.SameBut a s.heap h') (ho : h'.get? a = some o') (hp : DctF X.w a o' (putUs k ks y us) (putVs k ks v ws) (putKs k ks)) :
    Inv X pins σ (upd H a (XtO M .dct (a, o') (putUs k ks y us) (putVs k ks v ws) (putKs k ks) vs')) { s with heap := h', toks := t' } := by
  obtain ⟨a', e⟩ := g.at_
  refine d_write I (by rw [e]; exact True.intro) hs ⟨o', ho⟩ (dct_new ho ?_)
  rw [hW]
  exact hp
theorem x_putP {o' : Obj} (q1 : (a == sysModules) = false) (q2 : KsOk ks) (so : SoOk k ks) (ok : kOk 8 k = true) (hl : ks.length < 1000000) (lu : us.length = ks.length) (lw : ws.length = ks.length) {xs ys : List Value} (r1 : Vals us xs) (r2 : Vals ws ys) (ry : RelV y u) (rv : RelV v r)
    (hc : o'.ExactDict) (hd : ∃ ep, o'.data = .dict (entL X.w (putKs k ks) (putUs k ks u xs) (putVs k ks r ys)).toArray ep) : DctF X.w a o' (putUs k ks y us) (putVs k ks v ws) (putKs k ks) := by
  obtain ⟨ep, hd⟩ := hd
  have l1 := put_len (k := k) (v := v) lw
  exact ⟨q1, q2.put ok so, put_lenU lu, l1.1, by omega, _, _, ep, vals_put (α := Unit) r1 ry, vals_putV r2 rv, hc, hd⟩
theorem x_setItem {vs' : List D} {Q : Unit → Shared → Prop} (hW : M.w = X.w) (hK : M.K = X.K) (hu : A.units + 64 < cLine) (I : Inv X pins σ H s) (g : KeyAt M H a us ws ks vs y k) (hl : ks.length < 1000000) (ry : RelV y u) (rv : RelV v r)
    (h : ∀ o' s', Inv X pins σ (upd H a (XtO M .dct (a, o') (putUs k ks y us) (putVs k ks v ws) (putKs k ks) vs')) s' → Q () s') : wpAny (model X.prog X.w) A (setItem (.ref a) u r) Q E s := by
  have lu : us.length = ks.length := (dctP_of hW I g.at_).2.2.1
  rcases g.so with ⟨lf, la⟩ | ⟨lf, la⟩
  · obtain ⟨q1, q2, q4, q5, is, ys, r2, dd, ly⟩ := leaf_of hW hK I g lf la ry
    refine wpAny_setItem_pairs (hsz := by rw [duo_len ly]; exact szle q5) is dd fun h' dd' hs => ?_
    rw [duo_put lf la ly q2.1] at dd'
    obtain ⟨o, es, ep, ho, hc, hd, ko, pr, nd⟩ := dd'
    have la' : ∀ z ∈ putKs k ks, leafD z = true := by
      unfold putKs
      split
      · exact la
      · intro z hz
        rcases List.mem_append.mp hz with hz | hz
        · exact la z hz
        · rw [List.mem_singleton.mp hz]
          exact lf
    have l1 := put_len (k := k) (v := r) ly
    obtain ⟨xs, g1, g2⟩ := duo_back la' l1.1 pr fun e he => ko e (by simpa using he)
    have eu := nkVs_leaf la g.nus
    have ey := nkV_leaf lf g.ny
    have eus : putUs k ks y us = (putKs k ks).map lvV := by
      subst eu ey
      unfold putUs putKs
      split <;> simp
    have l2 := put_len (k := k) (v := v) q4
    exact h o _ (x_stored (v := v) (vs' := vs') hW I g hs ho ⟨q1, q2.put g.ok g.so, put_lenU lu, l2.1, by omega, xs, _, ep, by rw [eus]; exact g1, vals_putV r2 rv, hc, by rw [hd, ← g2]⟩)
  · obtain ⟨q1, q2, q4, q5, b, rfl, rfl, is, xs, ys, rf, r1, r2, dd, lx, ly⟩ := tup_of hW hK I g lf la ry
    refine wpAny_setItem_heap (hsz := by rw [tri_len rf lx ly]; exact szle q5) (by show A.in1.units + 8 < cLine; rw [Around.in1_units]; omega) is dd fun h' dd' hs => ?_
    rw [tri_put rf lx ly q2.1] at dd'
    obtain ⟨o, es, ep, ho, hc, hd, he, _, _⟩ := dd'
    have rf' : Refs (putUs k ks (.ref b) xs) := by
      unfold putUs
      split
      · exact rf
      · exact rf.set
    refine h o _ (x_stored (v := v) (vs' := vs') hW I g hs ho (x_putP q1 q2 g.so g.ok hl lu q4 r1 r2 ry rv hc ⟨ep, ?_⟩))
    rw [hd, tri_ent (P := X.prog) rf', ← he]
end
end DL

/- part -/
set_option Elab.async false
set_option linter.all false
set_option maxRecDepth 100000
set_option maxHeartbeats 4000000
namespace DL
open PySem PySem.Spec PyProof.Rows L2
def soB (k : D) (ks : List D) : Bool := (leafD k && ks.all leafD) || (isTupD k && ks.all isTupD)
def kyB (k : D) (ks : List D) : Bool := kOk 8 k && soB k ks
theorem soB_of {k : D} {ks : List D} (h : soB k ks = true) : SoOk k ks := by
  unfold soB at h
  rcases Bool.or_eq_true_iff.mp h with h | h
  · obtain ⟨a, b⟩ := Bool.and_eq_true_iff.mp h
    exact .inl ⟨a, fun z hz => List.all_eq_true.mp b z hz⟩
  · obtain ⟨a, b⟩ := Bool.and_eq_true_iff.mp h
    exact .inr ⟨a, fun z hz => List.all_eq_true.mp b z hz⟩
def dGet (k : D) (ks vs : List D) : Option D := (fIx (nk k) ks).bind fun i => vs[i]?
def dHas (k : D) (ks : List D) : Bool := (fIx (nk k) ks).isSome
def xgetD : D → D → Option RV
  | .xt .dct ks vs, k => if kyB k ks = true then (dGet k ks vs).map RV.im else none
  | _, _ => none
def xinD (neg : Bool) : D → D → Option RV
  | k, .xt .dct ks _ => if kyB k ks = true then some (.im (.bl (neg != dHas k ks))) else none
  | _, _ => none
section
variable {M : Mx} {W : WX} {X : Cx} {F H F' H' F1 H1 H0 : Hp} {σ : L2.St} {ρ ρ1 : SE}
variable {P : Program} {w : World} {base : Heap} {N : List Str} {sc : Scope} {j : Nat}
variable {a b c e k : Expr} {ma mb mc m mk : DM RV} {es : List Expr} {ms : DM (List AV)} {pos p p2 q : Pos}
theorem Reps.nkVs (sub : SubF F H) : ∀ {ks : List D} {us : List V}, (∀ k ∈ ks, kOk 8 k = true) → Reps M F us ks → NkVs M.K H us (ks.map nk)
  | _, _, _, .nil => .nil
  | _, _, h, .cons r t => .cons (Rep.nkV sub 8 _ _ (h _ List.mem_cons_self) r).1 (Reps.nkVs sub (fun z hz => h z (List.mem_cons_of_mem _ hz)) t)
theorem vw_key {v : V} {d : D} (h : kOk 8 d = true) (r : Vw M F H v d) : Rep M F v d := by
  cases d <;> first
    | exact r
    | (unfold kOk at h; cases h)
def KeyLike (M : Mx) (H : Hp) (a : Addr) (us ws : List V) (ks vs : List D) (y : V) (k : D) : Prop := (∃ a' : Addr × Obj, H a = some (XtO M .dct a' us ws ks vs)) ∧ ((∀ k ∈ ks, kOk 8 k = true) → KeyAt M H a us ws ks vs y k)
theorem KeyLike.get {pn : List (Addr × Obj)} {s : Shared} {x : Addr} {us ws : List V} {ks vs : List D} {y : V} {kd : D} (hW : M.w = X.w) (I : Inv X pn σ H s) (g : KeyLike M H x us ws ks vs y kd) : KeyAt M H x us ws ks vs y kd := g.2 (dctP_of hW I g.1).2.1.2.1
theorem keyLike (sub : SubF F H) {x y : V} {ks vs : List D} {kd : D} (hx : Vw M F H x (.xt .dct ks vs)) (hy : Vw M F H y kd) (h : kyB kd ks = true) : ∃ (ad : Addr) (us ws : List V), x = .ref ad ∧ Reps M F us ks ∧ Reps M F ws vs ∧ KeyLike M H ad us ws ks vs y kd := by
  obtain ⟨ad, a', us, ws, e, h1, h2, h3⟩ := hx
  obtain ⟨k1, k2⟩ := Bool.and_eq_true_iff.mp h
  exact ⟨ad, us, ws, e, h2, h3, ⟨a', h1⟩, fun ok => ⟨⟨a', h1⟩, Reps.nkVs sub ok h2, (Rep.nkV sub 8 kd _ k1 (vw_key k1 hy)).1, k1, soB_of k2⟩⟩
def rXGet (M : Mx) : R2 := fun x y H Q => ∃ (ad : Addr) (us ws : List V) (ks vs : List D) (kd : D) (i : Nat) (v : V), x = .ref ad ∧ KeyLike M H ad us ws ks vs y kd ∧ fIx (nk kd) ks = some i ∧ ws[i]? = some v ∧ Q v H
theorem o2_xget : Op2 M (rXGet M) xgetD := by
  intro F H x y d e rv Q sub hx hy hg go
  unfold xgetD at hg
  split at hg
  · rename_i ks vs
    obtain ⟨hc, hg⟩ : kyB e ks = true ∧ (dGet e ks vs).map RV.im = some rv := by
      split at hg
      · exact ⟨‹_›, hg⟩
      · cases hg
    obtain ⟨z, hz, rfl⟩ := Option.map_eq_some_iff.mp hg
    obtain ⟨i, hi, hv⟩ := Option.bind_eq_some_iff.mp hz
    obtain ⟨ad, us, ws, rfl, r1, r2, kl⟩ := keyLike sub hx hy hc
    obtain ⟨v, hv2, rz⟩ := r2.get hv
    exact ⟨ad, us, ws, ks, vs, e, i, v, rfl, kl, hi, hv2, go _ _ _ (Alc.refl sub) rz⟩
  · cases hg
theorem pe_xget {td ty : TE} (hW : M.w = X.w) (hK : M.K = X.K) (hu : X.A.units + 64 < cLine) (ho : PE X a td) (hi : PE X k ty) (hs : NoSl k) : PE X (.Subscript a k pos) (tOp (rXGet M) td ty) :=
  ⟨fun pn t τ G Q J g => by
    refine subD_of (T := "dict") PySem.F.slot_dict_getitem.lookup hs (thn (ho.run pn t τ G _ J g) fun u t1 ⟨x, G1, J1, rx, g1⟩ => thn (hi.run pn t1 τ G1 _ J1 g1) fun iv t2 ⟨y, G2, J2, ry, ad, us, ws, ks, vs, kd, i, v, ex, kl, hi, hv, g2⟩ => ?_)
    subst ex
    obtain rfl : u = Value.ref ad := rx
    have ka := kl.get hW J2
    refine ⟨?_, x_getItem hW hK hu J2 ka hi hv ry fun w' t3 J3 rw' => ⟨v, G2, J3, rw', g2⟩⟩
    obtain ⟨_, _, _, _, _, xs, ys, ep, _, _, o, ho, hc, _⟩ := dctP_of hW J2 ka.at_
    exact ⟨o, ho, hc.1⟩⟩
theorem de_xget (C : CxD P w base M N sc j X W) (hW : M.w = w) (ha : DE X M W a ma) (hk : DE X M W k mk) (hs : NoSl k := by exact fun _ _ => rfl) : DE X M W (.Subscript a k pos) (dOp2 xgetD ma mk) :=
  de_tOp ha hk o2_xget fun ta tb p q => pe_xget (hW.trans C.hw.symm) C.hK C.u64 p q hs
def rXIn (M : Mx) (neg : Bool) : R2 := fun y x H Q => ∃ (ad : Addr) (us ws : List V) (ks vs : List D) (kd : D), x = .ref ad ∧ KeyLike M H ad us ws ks vs y kd ∧ Q (.bl (neg != dHas kd ks)) H
theorem o2_xin (neg : Bool) : Op2 M (rXIn M neg) (xinD neg) := by
  intro F H y x e d rv Q sub hy hx hg go
  unfold xinD at hg
  split at hg
  · rename_i ks vs
    obtain ⟨hc, e1⟩ := some_ite hg
    subst e1
    obtain ⟨ad, us, ws, rfl, r1, r2, kl⟩ := keyLike sub hx hy hc
    exact ⟨ad, us, ws, ks, vs, e, rfl, kl, go _ _ _ (Alc.refl sub) RvNew.bl⟩
  · cases hg
theorem op_xnotIn (hW : M.w = X.w) (hK : M.K = X.K) (hu : X.A.units + 64 < cLine) : OpR X (compareOp .NotIn) (rXIn M true) := by
  intro pn t τ G y x v u Q J ry rx ⟨ad, us, ws, ks, vs, kd, ex, kl, g⟩
  subst ex
  obtain rfl : u = Value.ref ad := rx
  refine x_notIn hW hK hu J (kl.get hW J) ry fun t2 J2 => ⟨.bl (true != dHas kd ks), G, J2, ?_, g⟩
  show _ = _
  unfold dHas
  cases (fIx (nk kd) ks).isSome <;> rfl
def rXSet (M : Mx) : V → V → V → Hp → (Hp → Prop) → Prop := fun x y v H Q => ∃ (ad : Addr) (us ws : List V) (ks vs vs' : List D) (kd : D), x = .ref ad ∧ KeyLike M H ad us ws ks vs y kd ∧ ks.length < 1000000 ∧ ∀ o', Q (upd H ad (XtO M .dct (ad, o') (putUs kd ks y us) (putVs kd ks v ws) (putKs kd ks) vs'))
theorem set_x (hW : M.w = X.w) (hK : M.K = X.K) (hu : X.A.units + 64 < cLine) : PSet X (rXSet M) := by
  intro pn t τ G x y v ov iv u Q J rx ry rv ⟨ad, us, ws, ks, vs, vs', kd, ex, kl, hl, g⟩
  subst ex
  obtain rfl : ov = Value.ref ad := rx
  exact x_setItem (vs' := vs') hW hK hu J (kl.get hW J) hl ry rv fun o' t2 J2 => ⟨_, J2, g o'⟩
theorem reps_put {ks : List D} {us : List V} {kd : D} {y : V} (r : Reps M F us ks) (ry : Rep M F y kd) : Reps M F (putUs kd ks y us) (putKs kd ks) := by
  unfold putUs putKs
  split
  · exact r
  · exact r.append (.cons ry .nil)
theorem reps_putV {ks vs : List D} {ws : List V} {kd d : D} {v : V} (r : Reps M F ws vs) (rv : Rep M F v d) : Reps M F (putVs kd ks v ws) (putVs kd ks d vs) := by
  unfold putVs
  split
  · exact r.set rv _
  · exact r.append (.cons rv .nil)
def sSubX (i : Nat) (mk me : DM RV) : DM Fl := fun ρ => (dFz me ρ).bind fun d ρ1 => match ρ1[i]? with
  | some (.ow _ (.xt .dct _ _)) => (dFz mk ρ1).bind fun kd ρ2 => match ρ2[i]? with
    | some (.ow io (.xt .dct ks vs)) => if kyB kd ks = true ∧ ks.length < 1000000 then .ok .nx (ρ2.set i (.ow io (.xt .dct (putKs kd ks) (putVs kd ks d vs)))) else .bad
    | _ => .bad
  | _ => .bad
theorem Sim.owx (sm : Sim M F H σ ρ) {i : Nat} {io : Bool} {ks vs : List D} (h : ρ[i]? = some (SV.ow io (.xt .dct ks vs))) : ∃ (ad : Addr) (a' : Addr × Obj) (us ws : List V), σ[i]? = some (some (V.ref ad)) ∧ H ad = some (XtO M .dct a' us ws ks vs) ∧ F ad = none ∧ Reps M F us ks ∧ Reps M F ws vs := by
  obtain ⟨ad, o, e1, e2, e3, r⟩ := sm.ow i io _ h
  cases r with
  | xt r1 r2 => exact ⟨ad, _, _, _, e1, e2, e3, r1, r2⟩
theorem ds_subx (C : CxD P w base M N sc j X W) (hW : M.w = w) (i : Nat) {x : Str} {p' tpos : Pos} (h : NameOk sc x) (he : DE X M W e m) (hk : DE X M W k mk) (hi : N[i]? = some x := by rfl)
    (ha : ∀ v, assign (.Subscript (.Name x p') k tpos) X.env v = (do
      let ov ← holding [v] (eval (.Name x p') X.env)
      let iv ← holding [v, ov] (eval k X.env)
      standAt tpos
      holding [v, ov, iv] (setItem ov iv v)
      release [v, ov, iv] []) := by intro _; rfl) (hs : swapsWithSole [.Subscript (.Name x p') k tpos] e pos.line X.env = pure false := by rfl) (hw : swappedStores [.Subscript (.Name x p') k tpos] e X.env = pure none := by rfl)
    (h1 : (assignEach [.Subscript (.Name x p') k tpos] X.env).map (·.2) = [assign (.Subscript (.Name x p') k tpos) X.env] := by rfl) : DS X M W (.Assign [.Subscript (.Name x p') k tpos] e pos) (sSubX i mk m) := by
  obtain ⟨t, p, q⟩ := he
  obtain ⟨tk, pk, qk⟩ := hk
  refine ⟨_, ps_asg p (pg_sub (pe_var (C.ix hi) (by rw [C.hs]; exact h.vis) h.nd h.nc) pk (set_x (M := M) (hW.trans C.hw.symm) C.hK C.u64) ha) hs hw h1, fun σ H F ρ E sm g => ?_⟩
  refine q σ H F ρ _ sm (PostD.go (PostD.step (P := fun r => PostS M W σ ρ F H r E) (fun z => z) (fun e ρ' z F' H' cls d st sm ok => z F' H' σ cls d st sm ok) g fun d ρ1 F1 H1 v st1 sm1 r1 g1 => ?_))
  split at g1
  · rename_i io0 ks0 vs0 e0
    obtain ⟨y, _, _, _, e1, _⟩ := sm1.owx e0
    refine ⟨.ref y, e1, qk σ H1 F1 ρ1 _ sm1 (PostD.go (PostD.step (P := fun r => PostS M W σ ρ1 F1 H1 r E) (fun z => z) (fun e ρ' z F' H' cls d st sm ok => z F' H' σ cls d st sm ok) (PostS.from st1 g1) fun kd ρ2 F2 H2 u st2 sm2 r2 g2 => ?_))⟩
    split at g2
    · rename_i io ks vs e3
      split at g2
      · rename_i hc
        obtain ⟨hc, hl⟩ := hc
        obtain ⟨ad, a', us, ws, e5, h3, h4, h5, h6⟩ := sm2.owx e3
        rw [e1] at e5
        cases e5
        obtain ⟨k1, k2⟩ := Bool.and_eq_true_iff.mp hc
        refine ⟨y, us, ws, ks, vs, putVs kd ks d vs, kd, rfl, ⟨⟨a', h3⟩, fun ok => ⟨⟨a', h3⟩, Reps.nkVs sm2.sub ok h5, (Rep.nkV sm2.sub 8 kd _ k1 r2).1, k1, soB_of k2⟩⟩, hl, fun o' => ?_⟩
        obtain ⟨st3, sm3⟩ := upd_okG st2 sm2 e3 e1 (OcRep.xt (a := (y, o')) (reps_put h5 r2) (reps_putV (kd := kd) (ks := ks) h6 (r1.up st2.same)))
        exact g2 F2 _ σ st3 sm3
      · exact g2.elim
    · exact g2.elim
  · exact g1.elim
def dNewX : DM RV := fun ρ => .ok (.ow (.xt .dct [] [])) ρ
theorem ksOk_nil : KsOk [] := ⟨List.nodup_nil, by simp, .inl (by simp)⟩
def newD : Obj := { cls := .type "dict", data := .dict #[] }
theorem dct_empty {a : Addr} (hb : sysModules < a) {v : World} : DctF v a newD [] [] [] :=
  ⟨beq_eq_false_iff_ne.mpr (Ne.symm (Nat.ne_of_lt hb)), ksOk_nil, rfl, rfl, by simp, [], [], 0, .nil, .nil, ⟨rfl, rfl, rfl⟩, rfl⟩
theorem de_xnew {pos : Pos} : DE X M W (.Dict [] [] pos) dNewX := by
  refine ⟨fun _ H Q => ∀ p, H p = none → Q (.ref p) (upd H p (XtO M .dct (p, newD) [] [] [] [])), ⟨fun pn t τ G Q J g => wpAny_Dict_empty ⟨.ref t.heap.objs.size, _, J.laid (a := t.heap.objs.size) (o := XtO M .dct (t.heap.objs.size, newD) [] [] [] []) (t' := t.toks) (fun _ _ q => Heap.get?_push_of_some _ q) (Nat.le_refl _) (dct_new (Heap.get?_push_size _ rfl) (dct_empty J.big)), rfl, g _ (J.hok.fresh (Nat.le_refl _))⟩⟩, fun σ H F ρ Q sm g p hp => ?_⟩
  have al := Alc.new (o := XtO M .dct (p, newD) [] [] [] []) sm.sub hp
  refine g F _ _ (al.stp σ ρ) (sm.alc al) ⟨p, _, rfl, upd_same, sm.sub.free hp, .xt .nil .nil, fun z => ?_, .of hp⟩
  obtain ⟨_, o, e2, _⟩ := sm.ownF z
  rw [hp] at e2
  cases e2
end
end DL

/- part -/
set_option Elab.async false
set_option linter.all false
set_option maxRecDepth 100000
set_option maxHeartbeats 4000000
namespace DL
open PySem PySem.Spec PyProof.Rows L2
section
variable {M : Mx} {W : WX} {X : Cx} {F H F' H' F1 H1 H0 : Hp} {σ : L2.St} {ρ ρ1 : SE}
variable {P : Program} {w : World} {base : Heap} {N : List Str} {sc : Scope} {j : Nat}
variable {a b c e k : Expr} {ma mb mc m mk : DM RV} {mv : DM (List D)} {es : List Expr} {ms : DM (List AV)} {pos p p2 q : Pos}
end
end DL

/- part -/
set_option Elab.async false
set_option linter.all false
set_option maxRecDepth 100000
set_option maxHeartbeats 4000000
namespace DL
open PySem PySem.Spec PyProof.Rows L2
section
variable {M : Mx} {W : WX} {X : Cx} {F H F' H' F1 H1 H0 : Hp} {σ : L2.St} {ρ ρ1 : SE}
variable {P : Program} {w : World} {base : Heap} {N : List Str} {sc : Scope} {j : Nat}
variable {a b c e k v : Expr} {ma mb mc m mk mv : DM RV} {es : List Expr} {pos p p2 q : Pos}
theorem free_updX {F0 : Hp} {σ0 : L2.St} {ρ0 : SE} {x : Addr} {o o' : HO} (st : Stp F0 H0 σ0 ρ0 F H σ ρ) (sm : Sim M F H σ ρ) (hx : H x = some o) (nt : ∀ ps, o ≠ .tbl ps) (nc : ∀ q, o ≠ LamX.CodeO x q) (nt' : ∀ ps, o' ≠ .tbl ps) (n0 : Fre H0 x) (nF : F x = none) (no : ¬ Own σ ρ x) :
    Stp F0 H0 σ0 ρ0 F (upd H x o') σ ρ ∧ Sim M F (upd H x o') σ ρ := by
  have tb : LamX.Tabs M.T (upd H x o') := fun p hp => by
    obtain ⟨ps, h1, h2, h3⟩ := sm.tabs p hp
    refine ⟨ps, ?_, h2, fun pos cv hc => ?_⟩
    · rw [upd_ne]
      · exact h1
      · intro z
        rw [z, hx] at h1
        exact nt _ (Option.some.inj h1)
    · obtain ⟨c, e1, e2⟩ := h3 pos cv hc
      refine ⟨c, e1, ?_⟩
      rw [upd_ne]
      · exact e2
      · intro z
        subst z
        rw [hx] at e2
        exact nc _ (Option.some.inj e2)
  refine ⟨⟨st.same, fun b u h n t => ?_, st.new, st.newF, fun b z => ?_, st.io, st.noio⟩, ⟨⟨⟨fun b u h nb => ?_, fun b n vs h => ?_⟩, sm.ntb⟩, tb, sm.len, sm.im, fun i io ds z => ?_, sm.inj⟩⟩
  · rw [upd_ne (n0.ne h t)]
    exact st.keep b u h n t
  · exact st.dom b (z.back nt')
  · rw [upd_ne (ne_of_none h nF)]
    exact sm.sub.go b u h nb
  · rw [upd_ne (ne_of_none h nF)]
    exact sm.sub.bk b n vs h
  · obtain ⟨a, u, e1, e2, e3, e4⟩ := sm.ow i io ds z
    refine ⟨a, u, e1, ?_, e3, e4⟩
    rw [upd_ne]
    · exact e2
    · intro z2
      subst z2
      exact no ⟨i, ⟨io, ds, z⟩, e1⟩
def PostPr (M : Mx) (W : WX) (σ : L2.St) (ρ : SE) (F H : Hp) (r : R (List (D × D))) (Q : List (V × V) → Hp → Prop) : Prop := match r with
  | .bad => False
  | .ok kv ρ' => ∀ F' H' ps, Stp F H σ ρ F' H' σ ρ' → Sim M F' H' σ ρ' → Reps M F' (ps.map (·.1)) (kv.map (·.1)) → Reps M F' (ps.map (·.2)) (kv.map (·.2)) → Q ps H'
  | .ex e ρ' => ∀ F' H' cls d, Stp F H σ ρ F' H' σ ρ' → Sim M F' H' σ ρ' → ExcOk M F' H' cls d e → W cls d σ H'
def DPs (X : Cx) (M : Mx) (W : WX) (pos : Pos) (ks : List (Option Expr)) (vs : List Expr) (m : DM (List (D × D))) : Prop := ∃ trs, PPs X pos ks vs trs ∧ ∀ σ H F ρ Q, Sim M F H σ ρ → PostPr M W σ ρ F H (m ρ) Q → tPairs trs σ H Q
def pNil : DM (List (D × D)) := fun ρ => .ok [] ρ
def pCons (mk mv : DM RV) (ms : DM (List (D × D))) : DM (List (D × D)) := fun ρ => (dFz mk ρ).bind fun k ρ1 => (dFz mv ρ1).bind fun v ρ2 => (ms ρ2).bind fun r ρ3 => .ok ((k, v) :: r) ρ3
theorem PostPr.from {r : R (List (D × D))} {Q : List (V × V) → Hp → Prop} (st : Stp F H σ ρ F1 H1 σ ρ1) (h : PostPr M W σ ρ F H r Q) : PostPr M W σ ρ1 F1 H1 r Q := by
  cases r with
  | bad => exact h
  | ok kv ρ2 => exact fun F2 H2 ps st2 sm r1 r2 => h F2 H2 ps (st.trans st2) sm r1 r2
  | ex e ρ2 => exact fun F2 H2 cls d st2 sm ok => h F2 H2 cls d (st.trans st2) sm ok
theorem dps_nil : DPs X M W pos [] [] pNil := ⟨[], pps_nil, fun σ H F ρ Q sm h => h F H [] (Stp.refl _ _ _ _) sm .nil .nil⟩
theorem dps_cons {ks : List (Option Expr)} {vs : List Expr} {ms : DM (List (D × D))} (hk : DE X M W k mk) (hv : DE X M W v mv) (hr : DPs X M W pos ks vs ms) : DPs X M W pos (some k :: ks) (v :: vs) (pCons mk mv ms) := by
  obtain ⟨tk, pk, qk⟩ := hk
  obtain ⟨tv, pv, qv⟩ := hv
  obtain ⟨tr, pr, qr⟩ := hr
  refine ⟨_, pps_cons pk pv pr, fun σ H F ρ Q sm h => ?_⟩
  refine qk σ H F ρ _ sm (PostD.go (PostD.step (P := fun r => PostPr M W σ ρ F H r Q) (fun z => z) (fun e ρ' z => z) h fun kd ρ1 F1 H1 x st1 sm1 r1 h1 => ?_))
  refine qv σ H1 F1 ρ1 _ sm1 (PostD.go (PostD.step (P := fun r => PostPr M W σ ρ1 F1 H1 r Q) (fun z => z) (fun e ρ' z => z) (PostPr.from st1 h1) fun vd ρ2 F2 H2 y st2 sm2 r2 h2 => ?_))
  refine qr σ H2 F2 ρ2 _ sm2 ?_
  have h2 := PostPr.from st2 h2
  cases em : ms ρ2 with
  | bad =>
    rw [em] at h2
    exact h2
  | ex e ρ3 =>
    rw [em] at h2
    exact h2
  | ok kv ρ3 =>
    rw [em] at h2
    exact fun F3 H3 ps st3 sm3 q1 q2 => h2 F3 H3 _ st3 sm3 (.cons (r1.up (st2.same.trans st3.same)) q1) (.cons (r2.up st3.same) q2)
def nodK : List D → Bool
  | [] => true
  | k :: r => (fIx (nk k) r).isNone && nodK r
theorem nodK_of : ∀ {ks : List D}, nodK ks = true → (ks.map nk).Nodup
  | [], _ => List.nodup_nil
  | k :: r, h => by
    obtain ⟨h1, h2⟩ := Bool.and_eq_true_iff.mp h
    rw [List.map_cons, List.nodup_cons]
    refine ⟨fun z => ?_, nodK_of h2⟩
    obtain ⟨y, hy, e⟩ := List.mem_map.mp z
    exact fIx_none (Option.isNone_iff_eq_none.mp h1) y hy e
theorem merged_new : ∀ {kvs : List (Key × Value)} {acc : List (Key × Value)}, ((acc ++ kvs).map (·.1)).Nodup → merged acc kvs = acc ++ kvs
  | [], acc, _ => by
    show acc = acc ++ []
    rw [List.append_nil]
  | kv :: kvs, acc, h => by
    have e : stored acc kv.1 kv.2 = acc ++ [kv] := by
      unfold stored
      rw [if_neg]
      intro z
      obtain ⟨y, hy, ey⟩ := List.any_eq_true.mp z
      rw [List.map_append, List.nodup_append] at h
      exact h.2.2 y.1 (List.mem_map.mpr ⟨y, hy, rfl⟩) kv.1 (List.mem_map.mpr ⟨kv, List.mem_cons_self, rfl⟩) (of_decide_eq_true ey)
    show merged (stored acc kv.1 kv.2) kvs = _
    rw [e, merged_new (by rw [List.append_assoc]; exact h), List.append_assoc]
    rfl
def tXDisp (M : Mx) (trs : List (TE × TE)) : TE := fun σ H Q => ∀ p, H p = none → tPairs trs σ (upd H p (XtO M .dct (p, newD) [] [] [] [])) fun ps H2 => H2 p = some (XtO M .dct (p, newD) [] [] [] []) ∧
  ∃ ks vs : List D, (∀ z ∈ ks, leafD z = true) ∧ ps.map (·.1) = ks.map lvV ∧ (ks.map nk).Nodup ∧ ks.length ≤ 15 ∧ ∀ o', Q (.ref p) (upd H2 p (XtO M .dct (p, o') (ps.map (·.1)) (ps.map (·.2)) ks vs))
theorem carry_duo {P : Program} {w : World} : ∀ {ks : List D} {ps : List (V × V)} {us : List (Value × Value)}, (∀ z ∈ ks, leafD z = true) → ps.map (·.1) = ks.map lvV → VV ps us → ∃ ys, Carries (mixKind P w) us (duo ks ys) ∧ Vals (ps.map (·.2)) ys ∧ ys.length = ks.length
  | [], [], _, _, _, .nil => ⟨[], True.intro, .nil, rfl⟩
  | [], _ :: _, _, _, h, _ => by simp at h
  | _ :: _, [], _, _, h, _ => by simp at h
  | k :: ks, p :: ps, _, lf, h, .cons (b := b) r t => by
    simp only [List.map_cons, List.cons.injEq] at h
    obtain ⟨h1, h2⟩ := h
    obtain ⟨ys, c, vv, ly⟩ := carry_duo (P := P) (w := w) (fun z hz => lf z (List.mem_cons_of_mem _ hz)) h2 t
    have lk0 := lf k List.mem_cons_self
    refine ⟨b.2 :: ys, ⟨kV_is ?_, rfl, c⟩, .cons r.2 vv, by simp [ly]⟩
    rw [leaf_kV lk0, ← h1]
    exact r.1
theorem leaf_kOk {d : D} (h : leafD d = true) : kOk 8 d = true := by
  cases d <;> first
    | (unfold leafD at h; cases h; done)
    | rfl
theorem pe_xdisp {keys : List (Option Expr)} {values : List Expr} {trs : List (TE × TE)} (hW : M.w = X.w) (h : PPs X pos keys values trs) (hall : keys.all (·.isSome) = true) (hl : keys.length = values.length) (h0 : keys ≠ [])
    (h15 : keys.length ≤ 15) : PE X (.Dict keys values pos) (tXDisp M trs) :=
  ⟨fun pn t τ G Q J g => by
    have hn := J.hok.fresh (Nat.le_refl t.heap.objs.size)
    have J1 := J.laid (a := t.heap.objs.size) (o := XtO M .dct (t.heap.objs.size, newD) [] [] [] []) (h' := t.heap.push newD) (t' := t.toks) (fun _ _ q => Heap.get?_push_of_some _ q) (Nat.le_refl _) (dct_new (Heap.get?_push_size _ rfl) (dct_empty J.big))
    refine wpAny_Dict_walk (knd := mixKind X.prog X.w) hall hl h0 h15 (thn (h.run pn _ τ _ _ J1 (g _ hn)) fun us t2 ⟨ps, G2, J2, rel, e, ks, vs, lf, eks, nd, few, g2⟩ => ?_)
    obtain ⟨ys, c, vv, ly⟩ := carry_duo (P := X.prog) (w := X.w) lf eks rel
    obtain ⟨p1, q1, _⟩ := dct_ok (J2.hok _ _ e)
    refine ⟨duo ks ys, c, ⟨newD, #[], 0, p1, ⟨rfl, rfl, rfl⟩, rfl, (by intro e he; simp at he), .nil, List.nodup_nil⟩, fun h' dd hs => ?_⟩
    have nd2 := (leaf_nodup lf).mp nd
    rw [merged_new (acc := []) (by rw [List.nil_append, duo_keys ly]; exact nd2), List.nil_append] at dd
    obtain ⟨o, es, ep, ho, hc, hd, ko, pr, _⟩ := dd
    obtain ⟨xs, g3, g4⟩ := duo_back lf ly pr fun e he => ko e (by simpa using he)
    refine ⟨.ref t.heap.objs.size, _, d_write J2 (by rw [e]; exact True.intro) hs ⟨o, ho⟩ (dct_new (vs := vs) (us := ps.map (·.1)) (ws := ps.map (·.2)) (ks := ks) ho ?_), rfl, g2 o⟩
    refine ⟨q1, ⟨nd, fun z hz => leaf_kOk (lf z hz), .inl lf⟩, by rw [eks, List.length_map], by rw [vv.length, ly], by omega, xs, ys, ep, by rw [eks]; exact g3, vv, hc, ?_⟩
    rw [hd, hW, ← g4]⟩
def dDisp (mp : DM (List (D × D))) : DM RV := fun ρ => (mp ρ).bind fun kv ρ1 => if ((kv.map (·.1)).all leafD && nodK (kv.map (·.1)) && decide (kv.length ≤ 15)) = true then .ok (.ow (.xt .dct (kv.map (·.1)) (kv.map (·.2)))) ρ1 else .bad
theorem de_xdisp (C : CxD P w base M N sc j X W) (hW : M.w = w) {keys : List (Option Expr)} {values : List Expr} {mp : DM (List (D × D))} (h : DPs X M W pos keys values mp) (hall : keys.all (·.isSome) = true := by rfl) (hl : keys.length = values.length := by rfl) (h0 : keys ≠ [] := by intro z; cases z)
    (h15 : keys.length ≤ 15 := by decide) : DE X M W (.Dict keys values pos) (dDisp mp) := by
  obtain ⟨trs, pp, qq⟩ := h
  refine ⟨_, pe_xdisp (hW.trans C.hw.symm) pp hall hl h0 h15, fun σ H F ρ Q sm g p hp => ?_⟩
  have al := Alc.new (o := XtO M .dct (p, newD) [] [] [] []) sm.sub hp
  refine qq σ _ F ρ _ (sm.alc al) ?_
  have g : Post M W σ ρ F H ((mp ρ).bind fun kv ρ1 => if ((kv.map (·.1)).all leafD && nodK (kv.map (·.1)) && decide (kv.length ≤ 15)) = true then .ok (.ow (.xt .dct (kv.map (·.1)) (kv.map (·.2)))) ρ1 else .bad) Q := g
  cases em : mp ρ with
  | bad =>
    rw [em] at g
    exact g
  | ex e ρ1 =>
    rw [em] at g
    exact fun F1 H1 cls d st sm1 ok => g F1 H1 cls d ((al.stp σ ρ).trans st) sm1 ok
  | ok kv ρ1 =>
    rw [em] at g
    have g : Post M W σ ρ F H (if ((kv.map (·.1)).all leafD && nodK (kv.map (·.1)) && decide (kv.length ≤ 15)) = true then .ok (.ow (.xt .dct (kv.map (·.1)) (kv.map (·.2)))) ρ1 else .bad) Q := g
    split at g
    · rename_i hc
      obtain ⟨hc, c3⟩ := Bool.and_eq_true_iff.mp hc
      obtain ⟨c1, c2⟩ := Bool.and_eq_true_iff.mp hc
      have l15 : kv.length ≤ 15 := of_decide_eq_true c3
      have lf : ∀ z ∈ kv.map (·.1), leafD z = true := fun z hz => List.all_eq_true.mp c1 z hz
      intro F1 H1 ps st1 sm1 r1 r2
      have nO0 : ¬ Own σ ρ p := fun z => by
        obtain ⟨_, o, e2, _⟩ := sm.ownF z
        rw [hp] at e2
        cases e2
      have at1 : H1 p = some (XtO M .dct (p, newD) [] [] [] []) := st1.keep _ _ upd_same nO0 (fun ps z => by cases z)
      have nt1 : ∀ ps, XtO M .dct (p, newD) [] [] [] [] ≠ .tbl ps := fun ps z => by cases z
      have nF1 : F1 p = none := by
        cases ef : F1 p with
        | none => rfl
        | some u =>
          rcases st1.newF p u ef with z | z | z
          · rw [sm.sub.free hp] at z
            cases z
          · exact (nO0 z).elim
          · exact (z.no upd_same nt1).elim
      have nO1 : ¬ Own σ ρ1 p := fun z => by
        rcases st1.new p z with z | z
        · exact nO0 z
        · exact z.no upd_same nt1
      refine ⟨at1, kv.map (·.1), kv.map (·.2), lf, leaf_reps lf r1, nodK_of c2, by rw [List.length_map]; exact l15, fun o' => ?_⟩
      obtain ⟨st2, sm2⟩ := free_updX (o' := XtO M .dct (p, o') (ps.map (·.1)) (ps.map (·.2)) (kv.map (·.1)) (kv.map (·.2))) ((al.stp σ ρ).trans st1) sm1 at1 nt1 (fun q => ne_xt_code) (fun ps z => by cases z) (.of hp) nF1 nO1
      exact g F1 _ _ st2 sm2 ⟨p, _, rfl, upd_same, nF1, .xt r1 r2, nO1, .of hp⟩
    · exact g.elim
end
end DL

/- part -/
set_option Elab.async false
set_option linter.all false
set_option maxRecDepth 100000
set_option maxHeartbeats 4000000
namespace DL
open PySem PySem.Spec PyProof.Rows L2
section
variable {M : Mx} {W : WX} {X : Cx} {F H F' H' F1 H1 H0 : Hp} {σ : L2.St} {ρ ρ1 : SE}
variable {P : Program} {w : World} {base : Heap} {N : List Str} {sc : Scope} {j : Nat}
variable {a b c e k v : Expr} {ma mb mc m mk mv : DM RV} {es : List Expr} {pos p p2 q : Pos}
end
end DL

/- part -/
set_option Elab.async false
set_option linter.all false
set_option maxRecDepth 100000
set_option maxHeartbeats 4000000
namespace DL
open PySem PySem.Spec PyProof.Rows L2
section
variable {M : Mx} {X : Cx} {pins : List (Addr × Obj)} {σ : L2.St} {H : Hp} {s : Shared} {a : Addr} {us ws : List V} {ks vs : List D} {y v z : V} {k : D} {u r : Value} {A : Around} {E : Value → Shared → Prop}
end
section
variable {M : Mx} {W : WX} {X : Cx} {F H F' H' F1 H1 H0 : Hp} {σ : L2.St} {ρ ρ1 : SE}
variable {P : Program} {w : World} {base : Heap} {N : List Str} {sc : Scope} {j : Nat}
variable {a b c e k v o : Expr} {ma mb mc m mk mv mo : DM RV} {es : List Expr} {ms : DM (List AV)} {pos p p2 q apos cpos : Pos}
end
end DL

/- part -/
set_option Elab.async false
set_option linter.all false
set_option maxRecDepth 100000
set_option maxHeartbeats 4000000
namespace DL
open PySem PySem.Spec PyProof.Rows L2
section
variable {M : Mx} {X : Cx} {pins : List (Addr × Obj)} {σ : L2.St} {H : Hp} {s : Shared} {a : Addr} {us ws : List V} {ks vs : List D} {y v z : V} {k : D} {u r : Value} {A : Around} {E : Value → Shared → Prop}
theorem x_dictSet {vs' : List D} {Q : Unit → Shared → Prop} (hW : M.w = X.w) (hK : M.K = X.K) (hu : A.units + 64 < cLine) (I : Inv X pins σ H s) (g : KeyAt M H a us ws ks vs y k) (hl : ks.length < 1000000) (ry : RelV y u) (rv : RelV v r)
    (h : ∀ o' s', Inv X pins σ (upd H a (XtO M .dct (a, o') (putUs k ks y us) (putVs k ks v ws) (putKs k ks) vs')) s' → Q () s') : wpAny (model X.prog X.w) A (dictSet a u r) Q E s := by
  have lu : us.length = ks.length := (dctP_of hW I g.at_).2.2.1
  rcases g.so with ⟨lf, la⟩ | ⟨lf, la⟩
  · obtain ⟨q1, q2, q4, q5, is, ys, r2, dd, ly⟩ := leaf_of hW hK I g lf la ry
    refine wpAny_dictSet_pairs (hsz := by rw [duo_len ly]; exact szle q5) is dd fun h' dd' hs => ?_
    rw [duo_put lf la ly q2.1] at dd'
    obtain ⟨o, es, ep, ho, hc, hd, ko, pr, nd⟩ := dd'
    have la' : ∀ z ∈ putKs k ks, leafD z = true := by
      unfold putKs
      split
      · exact la
      · intro z hz
        rcases List.mem_append.mp hz with hz | hz
        · exact la z hz
        · rw [List.mem_singleton.mp hz]
          exact lf
    have l1 := put_len (k := k) (v := r) ly
    obtain ⟨xs, g1, g2⟩ := duo_back la' l1.1 pr fun e he => ko e (by simpa using he)
    have eu := nkVs_leaf la g.nus
    have ey := nkV_leaf lf g.ny
    have eus : putUs k ks y us = (putKs k ks).map lvV := by
      subst eu ey
      unfold putUs putKs
      split <;> simp
    have l2 := put_len (k := k) (v := v) q4
    exact h o _ (x_stored (v := v) (vs' := vs') hW I g hs ho ⟨q1, q2.put g.ok g.so, put_lenU lu, l2.1, by omega, xs, _, ep, by rw [eus]; exact g1, vals_putV r2 rv, hc, by rw [hd, ← g2]⟩)
  · obtain ⟨q1, q2, q4, q5, b, rfl, rfl, is, xs, ys, rf, r1, r2, dd, lx, ly⟩ := tup_of hW hK I g lf la ry
    refine wpAny_dictSet_heap (hsz := by rw [tri_len rf lx ly]; exact szle q5) (by show A.units + 8 < cLine; omega) is dd fun h' dd' hs => ?_
    rw [tri_put rf lx ly q2.1] at dd'
    obtain ⟨o, es, ep, ho, hc, hd, he, _, _⟩ := dd'
    have rf' : Refs (putUs k ks (.ref b) xs) := by
      unfold putUs
      split
      · exact rf
      · exact rf.set
    refine h o _ (x_stored (v := v) (vs' := vs') hW I g hs ho (x_putP q1 q2 g.so g.ok hl lu q4 r1 r2 ry rv hc ⟨ep, ?_⟩))
    rw [hd, tri_ent (P := X.prog) rf', ← he]
end
def dctK (P : Program) (w : World) (M : Mx) (q : Addr) : AK0 P w M q (List D × List D) where
  rel := fun F a o => ∃ (a' : Addr × Obj) (us ws : List V), o = XtO M .dct a' us ws a.1 a.2 ∧ Reps M F us a.1 ∧ Reps M F ws a.2
  up := fun e ⟨a', us, ws, h, r1, r2⟩ => ⟨a', us, ws, h, r1.up e, r2.up e⟩
  nt := fun ⟨a', us, ws, h, _⟩ ps z => by
    rw [h] at z
    cases z
  nc := fun ⟨a', us, ws, h, _⟩ x z => by
    rw [h] at z
    exact ne_xt_code z
def cEmD (mk mv : DM RV) (a : List D × List D) : DM (List D × List D) := fun ρ => (noEx (dFz mk ρ)).bind fun kd ρ1 => (noEx (dFz mv ρ1)).bind fun vd ρ2 => if kyB kd a.1 = true ∧ a.1.length < 1000000 then .ok (putKs kd a.1, putVs kd a.1 vd a.2) ρ2 else .bad
def emD (kx vx : Expr) (acc : Value) (env : Env) (k : Sem Fin) : Sem Fin := do
  (do
    let kv ← eval kx env
    let vv ← holding [kv] (eval vx env)
    match acc with
    | .ref d => do
      standAt { kx.pos with endLine := vx.pos.endLine, endCol := vx.pos.endCol }
      holding [kv, vv] (dictSet d kv vv)
    | _ => unsupported "internal:dictcomp")
  k
section
variable {P : Program} {w : World} {base : Heap} {N : List Str} {sc csc : Scope} {j : Nat}
variable {M : Mx} {W : WX} {X Y : Cx} {F H F' H' F1 H1 H0 : Hp} {σ σ1 σ' : L2.St} {ρ ρ1 ρ' : SE} {q : Addr} {o : HO}
variable {tg iter elt e kx vx : Expr} {ifs : List Expr} {own : List (Str × Nat)} {vs sl : List Nat} {gm : D → SE → R Unit} {mt : DM Bool} {me mk mv : DM RV} {mi : DM (List D)} {pos p : Pos}
theorem bd_emD (hP : Y.prog = P) (hw : Y.w = w) (hK : M.K = Y.K) (hW : M.w = w) (hu : Y.A.units + 64 < cLine) (hk : DE Y M W0 kx mk) (hv : DE Y M W0 vx mv) : BdOk Y (dctK P w M q) vs (emD kx vx (.ref q) Y.env) (cEmD mk mv) := by
  intro pins σ H s F ρ a o a' ρ' k Q I sm hq r hb go
  unfold cEmD at hb
  obtain ⟨kd, ρ1, e1, hb⟩ := noEx_bind hb
  obtain ⟨vd, ρ2, e2, hb⟩ := noEx_bind hb
  obtain ⟨tk, pk, qk⟩ := hk
  obtain ⟨tv, pv, qv⟩ := hv
  split at hb
  · rename_i hc
    cases hb
    obtain ⟨hc, hl⟩ := hc
    obtain ⟨k1, k2⟩ := Bool.and_eq_true_iff.mp hc
    have K := dctK P w M q
    refine wpAny_bind (wpAny_bind (wpAny_mono (pk.run pins s σ H (fun y H1 => ∃ F1, Stp F H σ ρ F1 H1 σ ρ1 ∧ Sim M F1 H1 σ ρ1 ∧ Rep M F1 y kd) I (qk σ H F ρ _ (unmask sm) (PostD.go ?_))) (fun u s1 ⟨y, H1, I1, ry, F1, st1, sm1, r1⟩ => ?_) fun _ _ z => z))
    · show PostD M W0 σ ρ F H (dFz mk ρ) _
      rw [e1]
      exact fun F1 H1 v st sm' r' => ⟨F1, st, sm', r'⟩
    obtain ⟨q1, st1, sm1⟩ := mask sm hq ((dctK P w M q).nt r) ((dctK P w M q).nc r) st1 sm1
    refine wpAny_bind (wpAny_holding (wpAny_mono (pv.run pins s1 σ H1 (fun x H2 => ∃ F2, Stp F1 H1 σ ρ1 F2 H2 σ ρ' ∧ Sim M F2 H2 σ ρ' ∧ Rep M F2 x vd) I1 (qv σ H1 F1 ρ1 _ (unmask sm1) (PostD.go ?_))) (fun u2 s2 ⟨x, H2, I2, rx, F2, st2, sm2, r2⟩ => ?_) fun _ _ z => z))
    · show PostD M W0 σ ρ1 F1 H1 (dFz mv ρ1) _
      rw [e2]
      exact fun F1 H1 v st sm' r' => ⟨F1, st, sm', r'⟩
    have rr := (dctK P w M q).up st1.same r
    obtain ⟨q2, st2, sm2⟩ := mask sm1 q1 ((dctK P w M q).nt rr) ((dctK P w M q).nc rr) st2 sm2
    obtain ⟨ad, us, ws, eo, g1, g2⟩ := r
    subst eo
    have r1' := r1.up st2.same
    have g1' := g1.up (st1.same.trans st2.same)
    have g2' := g2.up (st1.same.trans st2.same)
    have sub := (unmask sm2).sub
    have kl : KeyLike M H2 q us ws a.1 a.2 y kd := ⟨⟨ad, q2⟩, fun ok => ⟨⟨ad, q2⟩, Reps.nkVs sub ok g1', (Rep.nkV sub 8 kd _ k1 r1').1, k1, soB_of k2⟩⟩
    refine wpAny_bind (wpAny_standAt (wpAny_holding (x_dictSet (vs' := putVs kd a.1 vd a.2) (hW.trans hw.symm) hK hu I2 (kl.get (hW.trans hw.symm) I2) hl ry rx fun o' s3 I3 => ?_)))
    refine go F2 _ (XtO M .dct (q, o') (putUs kd a.1 y us) (putVs kd a.1 x ws) (putKs kd a.1) (putVs kd a.1 vd a.2)) s3 (I3.weak (L2.wipe_length _ _) fun j v e => (L2.wipe_some e).1) ?_ ?_ upd_same ⟨_, _, _, rfl, reps_put g1' r1', reps_putV g2' r2⟩
    · rw [off_upd]
      exact st1.trans st2
    · rw [off_upd]
      exact sm2
  · cases hb
def dDc (m : DM (List D × List D)) : DM RV := fun ρ => (m ρ).bind fun a ρ1 => .ok (.ow (.xt .dct a.1 a.2)) ρ1
end
end DL

/- part -/
set_option Elab.async false
set_option linter.all false
set_option maxRecDepth 100000
set_option maxHeartbeats 4000000
namespace DL
open PySem PySem.Spec PyProof.Rows L2
section
variable {M : Mx} {W : WX} {X : Cx} {F H F' H' F1 H1 H0 : Hp} {σ : L2.St} {ρ ρ1 : SE}
variable {P : Program} {w : World} {base : Heap} {N : List Str} {sc : Scope} {j : Nat}
variable {a b c e k v o : Expr} {ma mb mc m mk mv mo : DM RV} {es : List Expr} {ms : DM (List AV)} {pos p p2 q apos cpos : Pos}
end
end DL

/- part -/
set_option Elab.async false
set_option linter.all false
set_option maxRecDepth 100000
set_option maxHeartbeats 1000000
namespace DL
open PySem PySem.Spec PyProof.Rows L2
def subX2 (i : Nat) (d kd : D) (o : Option SV) (ρ2 : SE) : R Fl := match o with
  | some (.ow io (.xt .dct ks vs)) => if kyB kd ks = true ∧ ks.length < 1000000 then .ok .nx (ρ2.set i (.ow io (.xt .dct (putKs kd ks) (putVs kd ks d vs)))) else .bad
  | _ => .bad
def subX1 (i : Nat) (mk : DM RV) (d : D) (o : Option SV) (ρ1 : SE) : R Fl := match o with
  | some (.ow _ (.xt .dct _ _)) => (dFz mk ρ1).bind fun kd ρ2 => subX2 i d kd ρ2[i]? ρ2
  | _ => .bad
def gTurn {α : Type} (vs : List Nat) (gm : D → SE → R Unit) (mt : DM Bool) (body : α → DM α) (d : D) (a : α) (ρ : SE) : R α := (noEx (gm d (wipeR ρ vs))).bind fun _ ρ1 => (noEx (mt ρ1)).bind fun k ρ2 => if k = true then (noEx (body a ρ2)).bind fun a' ρ3 => .ok a' (rest vs ρ ρ3) else .ok a (rest vs ρ ρ2)
def ofA {α : Type} (o : Option α) (ρ : SE) : R α := match o with
  | some a => .ok a ρ
  | none => .bad
def dispR (kv : List (D × D)) (ρ : SE) : R RV := if ((kv.map (·.1)).all leafD && nodK (kv.map (·.1)) && decide (kv.length ≤ 15)) = true then .ok (.ow (.xt .dct (kv.map (·.1)) (kv.map (·.2)))) ρ else .bad
def emDR (kd vd : D) (a : List D × List D) (ρ : SE) : R (List D × List D) := if kyB kd a.1 = true ∧ a.1.length < 1000000 then .ok (putKs kd a.1, putVs kd a.1 vd a.2) ρ else .bad
section
variable {α : Type} {ρ ρ1 ρ2 : SE} {d e f kd : D} {ks vs : List D} {i j n : Nat} {Q : α → SE → Prop} {E : Exc → SE → Prop}
@[simp] theorem ocD_xt {k : Xk} : OC.D (.xt k ks vs) = .xt k ks vs := rfl
@[simp ↓, simp] theorem u_sSubX {mk me : DM RV} {c : Cont Fl} : Wp (sSubX i mk me ρ) = Wp ((dFz me ρ).bind fun d ρ1 => subX1 i mk d ρ1[i]? ρ1 : R Fl) := rfl
@[simp ↓, simp] theorem w_subX1 {mk : DM RV} {io : Bool} {c : Cont Fl} : Wp (subX1 i mk d (some (.ow io (.xt .dct ks vs))) ρ) = Wp ((dFz mk ρ).bind fun kd ρ2 => subX2 i d kd ρ2[i]? ρ2) := rfl
@[simp] theorem subX2_ow {io : Bool} : subX2 i d kd (some (.ow io (.xt .dct ks vs))) ρ = if kyB kd ks = true ∧ ks.length < 1000000 then .ok .nx (ρ.set i (.ow io (.xt .dct (putKs kd ks) (putVs kd ks d vs)))) else .bad := rfl
@[simp ↓, simp] theorem u_dNewX {c : Cont RV} : Wp (dNewX ρ) = Wp (.ok (.ow (.xt .dct [] [])) ρ : R RV) := rfl
@[simp ↓, simp] theorem u_dDisp {mp : DM (List (D × D))} {c : Cont RV} : Wp (dDisp mp ρ) = Wp ((mp ρ).bind dispR : R RV) := rfl
@[simp ↓, simp] theorem u_pNil {c : Cont (List (D × D))} : Wp (pNil ρ) = Wp (.ok [] ρ : R (List (D × D))) := rfl
@[simp ↓, simp] theorem u_pCons {mk mv : DM RV} {ms : DM (List (D × D))} {c : Cont (List (D × D))} : Wp (pCons mk mv ms ρ) = Wp ((dFz mk ρ).bind fun k ρ1 => (dFz mv ρ1).bind fun v ρ2 => (ms ρ2).bind fun r ρ3 => .ok ((k, v) :: r) ρ3 : R (List (D × D))) := rfl
@[simp ↓, simp] theorem u_dDc {m : DM (List D × List D)} {c : Cont RV} : Wp (dDc m ρ) = Wp ((m ρ).bind fun a ρ1 => .ok (.ow (.xt .dct a.1 a.2)) ρ1 : R RV) := rfl
@[simp ↓, simp] theorem u_dLc2 {m : DM (List D)} {c : Cont RV} : Wp (dLc2 m ρ) = Wp ((m ρ).bind fun ys ρ1 => .ok (.ow (.ls ys)) ρ1 : R RV) := rfl
@[simp ↓, simp] theorem u_dGat {vs : List Nat} {mi : DM (List D)} {gm : D → SE → R Unit} {mt : DM Bool} {body : α → DM α} {a0 : α} {c : Cont α} : Wp (dGat vs mi gm mt body a0 ρ) = Wp ((mi ρ).bind fun ds ρ1 => noEx (cRun vs gm mt body ds a0 ρ1) : R α) := rfl
@[simp ↓, simp] theorem u_cIn {vs : List Nat} {mi : DM (List D)} {gm : D → SE → R Unit} {mt : DM Bool} {body : α → DM α} {a0 : α} {c : Cont α} : Wp (cIn vs mi gm mt body a0 ρ) = Wp ((noEx (mi ρ)).bind fun ds ρ1 => cRun vs gm mt body ds a0 ρ1 : R α) := rfl
@[simp ↓, simp] theorem u_cEm {add : α → D → Option α} {me : DM RV} {a : α} {c : Cont α} : Wp (cEm add me a ρ) = Wp ((noEx (dFz me ρ)).bind fun y ρ1 => ofA (add a y) ρ1 : R α) := by
  have e : cEm add me a ρ = (noEx (dFz me ρ)).bind fun y ρ1 => ofA (add a y) ρ1 := by
    unfold cEm ofA
    rfl
  rw [e]
@[simp] theorem ofA_some {a : α} : ofA (some a) ρ = .ok a ρ := rfl
@[simp ↓, simp] theorem u_cEmD {mk mv : DM RV} {a : List D × List D} {c : Cont (List D × List D)} : Wp (cEmD mk mv a ρ) = Wp ((noEx (dFz mk ρ)).bind fun kd ρ1 => (noEx (dFz mv ρ1)).bind fun vd ρ2 => emDR kd vd a ρ2 : R (List D × List D)) := rfl
@[simp ↓, simp] theorem u_gTurn {vs : List Nat} {gm : D → SE → R Unit} {mt : DM Bool} {body : α → DM α} {a : α} {c : Cont α} : Wp (gTurn vs gm mt body d a ρ) = Wp ((noEx (gm d (wipeR ρ vs))).bind fun _ ρ1 => (noEx (mt ρ1)).bind fun k ρ2 => if k = true then (noEx (body a ρ2)).bind fun a' ρ3 => .ok a' (rest vs ρ ρ3) else .ok a (rest vs ρ ρ2) : R α) := rfl
theorem wp_cRun {vs : List Nat} {gm : D → SE → R Unit} {mt : DM Bool} {body : α → DM α} {ds : List D} {a : α} (I : Nat → α → SE → Prop) (h0 : I 0 a ρ) (hw : ∀ i a ρ, I i a ρ → noOw ρ vs = true)
    (hs : ∀ i d a ρ (J : α → SE → Prop), ds[i]? = some d → I i a ρ → (∀ a' ρ', I (i + 1) a' ρ' → J a' ρ') → WP (gTurn vs gm mt body d a ρ) J E) (hd : ∀ a ρ, I ds.length a ρ → Q a ρ) : WP (cRun vs gm mt body ds a ρ) Q E := by
  have main : ∀ (n : Nat) (a : α) (ρ : SE), n ≤ ds.length → I n a ρ → WP (cRun vs gm mt body (ds.drop n) a ρ) Q E := by
    intro n
    induction hk : ds.length - n generalizing n with
    | zero =>
      intro a ρ hn h
      have e : n = ds.length := by omega
      subst e
      rw [List.drop_length]
      exact wpI (hd a ρ h)
    | succ k ih =>
      intro a ρ hn h
      have lt : n < ds.length := by omega
      rw [List.drop_eq_getElem_cons lt]
      have e : cRun vs gm mt body (ds[n] :: ds.drop (n + 1)) a ρ = (gTurn vs gm mt body ds[n] a ρ).bind fun a' ρ' => cRun vs gm mt body (ds.drop (n + 1)) a' ρ' := by
        show (if noOw ρ vs = true then _ else _) = _
        rw [if_pos (hw n a ρ h)]
        unfold gTurn
        cases noEx (gm ds[n] (wipeR ρ vs)) with
        | bad => rfl
        | ex x ρ1 => rfl
        | ok u ρ1 =>
          show (noEx (mt ρ1)).bind _ = ((noEx (mt ρ1)).bind _).bind _
          cases noEx (mt ρ1) with
          | bad => rfl
          | ex x ρ2 => rfl
          | ok b ρ2 =>
            cases b with
            | false => rfl
            | true =>
              show (noEx (body a ρ2)).bind _ = ((noEx (body a ρ2)).bind _).bind _
              cases noEx (body a ρ2) <;> rfl
      rw [e, wp_bind]
      exact (hs n ds[n] a ρ _ (List.getElem?_eq_getElem lt) h fun a' ρ' q => q).mono fun a' ρ' q => ih (n + 1) (by omega) a' ρ' (by omega) q
  have := main 0 a ρ (Nat.zero_le _) h0
  rwa [List.drop_zero] at this
end
section
variable {κ : Type} [DecidableEq κ] {f : κ → D} {g : κ → D} {l : List κ} {x : κ} {v : D}
structure KeyF (f : κ → D) : Prop where
  inj : ∀ a b, nk (f a) = nk (f b) → a = b
  ok : ∀ a, kOk 8 (f a) = true
  so : (∀ a, leafD (f a) = true) ∨ ∀ a, isTupD (f a) = true
theorem KeyF.ky (h : KeyF f) : kyB (f x) (l.map f) = true := by
  unfold kyB soB
  rw [h.ok, Bool.true_and, List.all_map, List.all_map]
  rcases h.so with s | s
  · have e : l.all (leafD ∘ f) = true := List.all_eq_true.mpr fun a _ => s a
    rw [s x, e]
    rfl
  · have e : l.all (isTupD ∘ f) = true := List.all_eq_true.mpr fun a _ => s a
    rw [s x, e]
    simp
theorem KeyF.fIx (h : KeyF f) : fIx (nk (f x)) (l.map f) = l.findIdx? fun y => decide (y = x) := by
  induction l with
  | nil => rfl
  | cons y l ih =>
    rw [List.map_cons, List.findIdx?_cons]
    unfold DL.fIx
    by_cases e : y = x
    · subst e
      simp
    · rw [if_neg fun z => e (h.inj _ _ z), ih]
      simp [e]
theorem KeyF.has (h : KeyF f) : dHas (f x) (l.map f) = decide (x ∈ l) := by
  unfold dHas
  rw [h.fIx, List.findIdx?_isSome]
  by_cases m : x ∈ l
  · rw [decide_eq_true m]
    exact List.any_eq_true.mpr ⟨x, m, decide_eq_true rfl⟩
  · rw [decide_eq_false m]
    refine Bool.eq_false_iff.mpr fun z => ?_
    obtain ⟨y, hy, e⟩ := List.any_eq_true.mp z
    exact m (of_decide_eq_true e ▸ hy)
theorem KeyF.getMap (h : KeyF f) (hx : x ∈ l) : dGet (f x) (l.map f) (l.map g) = some (g x) := by
  unfold dGet
  rw [h.fIx]
  cases e : l.findIdx? fun y => decide (y = x) with
  | none =>
    have := List.findIdx?_eq_none_iff.mp e x hx
    simp at this
  | some i =>
    obtain ⟨lt, he, _⟩ := List.findIdx?_eq_some_iff_getElem.mp e
    show (l.map g)[i]? = _
    rw [List.getElem?_map, List.getElem?_eq_getElem lt, of_decide_eq_true he]
    rfl
theorem KeyF.putK (h : KeyF f) : putKs (f x) (l.map f) = (if x ∈ l then l else l ++ [x]).map f := by
  have e := h.has (l := l) (x := x)
  unfold dHas at e
  unfold putKs
  by_cases m : x ∈ l
  · rw [decide_eq_true m] at e
    rw [if_pos m]
    cases q : DL.fIx (nk (f x)) (l.map f) with
    | none =>
      rw [q] at e
      cases e
    | some i => rfl
  · rw [decide_eq_false m] at e
    rw [if_neg m]
    cases q : DL.fIx (nk (f x)) (l.map f) with
    | none => simp
    | some i =>
      rw [q] at e
      cases e
theorem KeyF.putV (h : KeyF f) (hx : x ∉ l) {vs : List D} : putVs (f x) (l.map f) v vs = vs ++ [v] := by
  have e := h.has (l := l) (x := x)
  unfold dHas at e
  rw [decide_eq_false hx] at e
  unfold putVs
  cases q : DL.fIx (nk (f x)) (l.map f) with
  | none => rfl
  | some i =>
    rw [q] at e
    cases e
end
end DL

/- part -/
set_option Elab.async false
set_option linter.all false
set_option maxRecDepth 100000
set_option maxHeartbeats 1000000
namespace DL
open PySem PySem.Spec PyProof.Rows L2
section
variable {P : Program} {w : World} {base : Heap} {N : List Str} {sc : Scope} {j : Nat}
variable {M : Mx} {W : WX} {X : Cx} {F H F' H' F1 H1 F2 H2 H0 Ha : Hp} {σ σ1 : L2.St} {ρ ρ' ρ1 ρ2 : SE}
variable {a b : Expr} {ma mb m : DM RV} {es tgs : List Expr} {ms : DM (List SV)} {pos p pt pt2 : Pos} {x y : Str}
inductive SvsOk (M : Mx) (H0 F H : Hp) (σ : L2.St) (ρ : SE) : List V → List SV → Prop
  | nil : SvsOk M H0 F H σ ρ [] []
  | cons {v : V} {sv : SV} {vs : List V} {svs : List SV} : SvOk M H0 F H σ ρ v sv → (∀ oc, sv = .ow false oc → ∀ (i : Nat) (oc' : OC), svs[i]? = some (.ow false oc') → vs[i]? ≠ some v) → SvsOk M H0 F H σ ρ vs svs → SvsOk M H0 F H σ ρ (v :: vs) (sv :: svs)
theorem SvsOk.dom {vs : List V} {svs : List SV} (dom : ∀ b, Fre Ha b → Fre H0 b) (h : SvsOk M Ha F H σ ρ vs svs) : SvsOk M H0 F H σ ρ vs svs := by
  induction h with
  | nil => exact .nil
  | cons h1 h2 _ ih => exact .cons (svOk_dom dom h1) h2 ih
theorem SvsOk.step {vs : List V} {svs : List SV} (h : SvsOk M H0 F H σ ρ vs svs) (st : Stp F H σ ρ F' H' σ ρ') : SvsOk M H0 F' H' σ ρ' vs svs := by
  induction h with
  | nil => exact .nil
  | cons h1 h2 _ ih => exact .cons (svOk_step h1 st) h2 ih
end
section
variable {ρ ρ2 : SE} {i j : Nat} {ma mb : DM RV} {ds : List D} {d : D} {sv : SV} {svs : List SV} {is : List Nat}
end
end DL

/- part -/
set_option Elab.async false
set_option linter.all false
set_option maxRecDepth 100000
set_option maxHeartbeats 4000000
namespace DL
open PySem PySem.Spec PyProof.Rows L2
def DKw (X : Cx) (M : Mx) (W : WX) (kws : List Keyword) (m : DM (List AV)) : Prop := ∃ t, PK X kws t ∧ ∀ σ H F ρ Q, Sim M F H σ ρ → PostA M W σ ρ F H (m ρ) Q → t σ H Q
def tCallW (n m : Nat) (S : Sp) (gV : List V → List V → List V) (B : L2.St → XK) (ta tz : TA) : TE := fun σ H Q => ta σ H fun xs H1 => tz σ H1 fun ys H2 => (xs.length = n ∧ ys.length = m) ∧ S (gV xs ys) H2 Q (B σ)
def dCallW (n m N : Nat) (g : List D → List D → List D) (mm : SE → R RV) (ms mk : DM (List AV)) : DM RV := fun ρ => (ms ρ).bind fun as ρ1 => (mk ρ1).bind fun zs ρ2 => match avD as, avD zs with
  | some ds, some es => if ds.length = n ∧ es.length = m ∧ (g ds es).length = N then callR mm ((g ds es).map AV.d) ρ2 else .bad
  | _, _ => .bad
section
variable {P : Program} {w : World} {base : Heap} {N : List Str} {sc : Scope} {j : Nat}
variable {X : Cx} {M : Mx} {W : WX} {a : Expr} {es : List Expr} {ma : DM RV} {ms mk : DM (List AV)} {kws : List Keyword} {kpos : Pos} {nm : Option Str}
theorem dk_nil : DKw X M W [] aNil := ⟨_, pk_nil, fun σ H F ρ Q sm h => h F H [] (Stp.refl _ _ _ _) sm .nil⟩
theorem dk_cons (ha : DE X M W a ma) (hs : DKw X M W kws ms) : DKw X M W (⟨nm, a, kpos⟩ :: kws) (aCons ma ms) := by
  obtain ⟨ta, pa, qa⟩ := ha
  obtain ⟨_, ps, qs⟩ := hs
  exact ⟨_, pk_cons pa ps, q_tCons qa qs⟩
variable {k n : Nat} {f : Addr} {fd : FuncData} {ps ks : List Str} {S : Sp} {B : L2.St → XK} {x : Str} {p pos : Pos} {ta tz : TA} {g : List Value → List Value → List Value} {gV : List V → List V → List V} {gD : List D → List D → List D}
theorem pe_callW (G : FnOk X.prog X.w X.K X.mg X.base (L2.CX X.prog X.w) k f fd ps S) (room : Room k X.A) (gl : Gl X x) (at_ : X.mg x = some (.ref f)) (kp : PySem.W.keepIn X.K (.ref f) = true) (bn : KBn X.K fd ps n ks g gV) (px : ∀ σ, PassesAt (L2.CX X.prog X.w) X σ (B σ))
    (pa : PA X (a :: es) ta) (pk : PK X kws tz) (all : (backToKw pos (keywordEach kws X.env)).all (·.1.isSome) = true) (nms : (backToKw pos (keywordEach kws X.env)).filterMap (·.1) = ks)
    (nd : (x == ("__debug__" : Str)) = false) (st : starEach (a :: es) X.env = (false, eval a X.env) :: starEach es X.env) (pl : ((backTo pos (starEach (a :: es) X.env)).any (·.1) || (backToKw pos (keywordEach kws X.env)).any (·.1.isNone)) = false) :
    PE X (.Call (.Name x p) (a :: es) kws pos) (tCallW n ks.length S gV B ta tz) := by
  refine ⟨fun pins s σ H Q I h => wpAny_Call_Name_kw (ld_glob I gl at_ ?_ nd)⟩
  refine PySem.W.callWith_KW (h₀ := X.base) I.ok.mod.kin kp all (thn (pa.run pos pins s σ H _ I h) fun us s1 ⟨xs, H1, I1, rx, q1⟩ => ?_) pl st
  refine thn (pk.run pos pins s1 σ H1 _ I1 q1) fun ws s2 ⟨ys, H2, I2, ry, ⟨l1, l2⟩, q2⟩ => ⟨I2.kIn, ?_⟩
  rw [nms]
  have to := bn.to s2 us ws I2.kIn (rx.length.symm.trans l1) (ry.length.symm.trans l2)
  refine wpAny_call (codeAny_mono (G.run X.A X.stack s2 H2 ⟨us, ks.zip ws⟩ (g us ws) (gV xs ys) Q (B σ) room I2.env0 to (bn.rel rx ry) q2) fun out s3 hq => ?_)
  match out, hq with
  | .error e, hq => exact px σ pins H2 s2 e s3 I2 hq
  | .ok (.ret u), hq => exact I2.after hq
  | .ok .next, hq => exact hq.elim
  | .ok .brk, hq => exact hq.elim
  | .ok .cont, hq => exact hq.elim
structure CalK (P : Program) (w : World) (base : Heap) (M : Mx) (x : Str) (st : Stmt) (ps : List Str) (kds : List (Str × V)) (k n : Nat) (m : SE → R RV) where
  f : Addr
  fd : FuncData
  g : M.mg x = some (.ref f)
  kp : PySem.W.keepIn M.K (.ref f) = true
  fu : FunD M.K x x (defArgs st) (defBody st) (defScope st) [] kds f fd
  ok : FnOk P w M.K M.mg base (L2.CX P w) k f fd ps (spD M n m)
theorem de_callW {k nn : Nat} {mm : SE → R RV} {st0 : Stmt} {kds : List (Str × V)} (C : CxD P w base M N sc j X W) (Ca : CalK P w base M x st0 ps kds k nn mm) (bn : ∃ g, KBn M.K Ca.fd ps n ks g gV) (hg : ∀ F vs ds zs es, Reps M F vs ds → Reps M F zs es → Reps M F (gV vs zs) (gD ds es)) (gl : GlOk sc x) (hk : k ≤ j)
    (ha : DA X M W (a :: es) ms) (hz : DKw X M W kws mk) (all : (backToKw pos (keywordEach kws X.env)).all (·.1.isSome) = true := by rfl) (nms : (backToKw pos (keywordEach kws X.env)).filterMap (·.1) = ks := by rfl)
    (st : starEach (a :: es) X.env = (false, eval a X.env) :: starEach es X.env := by rfl) (pl : ((backTo pos (starEach (a :: es) X.env)).any (·.1) || (backToKw pos (keywordEach kws X.env)).any (·.1.isNone)) = false := by rfl) :
    DE X M W (.Call (.Name x p) (a :: es) kws pos) (dCallW n ks.length nn gD mm ms mk) := by
  obtain ⟨f, fd, g', kp, fu, ok⟩ := Ca
  obtain ⟨g, bn⟩ := bn
  have hP := C.hP
  have hw := C.hw
  have hB := C.hB
  subst hP hw hB
  rw [C.hK, C.hM] at ok
  rw [C.hK] at kp bn
  rw [C.hM] at g'
  obtain ⟨ta, pa, qa⟩ := ha
  obtain ⟨tz, pk, qk⟩ := hz
  refine ⟨_, pe_callW ok (C.hr.mono hk) (C.glo gl) g' kp bn (B := fun σ cls d H' => W cls d σ H') (fun σ => passAt C.tk σ) pa pk all nms gl.nd st pl, fun σ H F ρ Q sm h => ?_⟩
  refine qa σ H F ρ _ sm (PostA.goE h fun as ρ1 F1 H1 xs e1 st1 sm1 ok1 h1 => ?_)
  refine qk σ H1 F1 ρ1 _ sm1 (PostA.goE (Post.from st1 h1) fun zs ρ2 F2 H2 ys e2 st2 sm2 ok2 h2 => ?_)
  cases e3 : avD as with
  | none =>
    rw [e3] at h2
    exact h2.elim
  | some ds =>
    cases e4 : avD zs with
    | none =>
      rw [e3, e4] at h2
      exact h2.elim
    | some es =>
      rw [e3, e4] at h2
      have r1 := (avD_ok ok1 e3).up st2.same
      have r2 := avD_ok ok2 e4
      by_cases c : ds.length = n ∧ es.length = ks.length ∧ (gD ds es).length = nn
      · have h2 : Post M W σ ρ1 F1 H1 (if ds.length = n ∧ es.length = ks.length ∧ (gD ds es).length = nn then callR mm ((gD ds es).map AV.d) ρ2 else .bad) Q := h2
        rw [if_pos c] at h2
        have r3 := hg F2 _ _ _ _ r1 r2
        have av : AvsOk M F2 σ ρ2 (gV xs ys) ((gD ds es).map AV.d) := AvsOk.app (vs := []) (as := []) .nil r3
        exact ⟨⟨r1.length.trans c.1, r2.length.trans c.2.1⟩, call_sp av sm2 (by rw [r3.length]; exact c.2.2) (Post.from st2 h2)⟩
      · have h2 : Post M W σ ρ1 F1 H1 (if ds.length = n ∧ es.length = ks.length ∧ (gD ds es).length = nn then callR mm ((gD ds es).map AV.d) ρ2 else .bad) Q := h2
        rw [if_neg c] at h2
        exact h2.elim
end
def pickW {α : Type} : List (Option Nat) → List α → List α → List α
  | [], _, _ => []
  | some i :: r, ms, zs => (zs[i]?).toList ++ pickW r ms zs
  | none :: r, ms, zs => ms.take 1 ++ pickW r (ms.drop 1) zs
theorem vals_app {vs ws : List V} {us ts : List Value} (h1 : Vals vs us) (h2 : Vals ws ts) : Vals (vs ++ ws) (us ++ ts) := h1.append h2
theorem vals_at : ∀ {zs : List V} {ws : List Value} {i : Nat}, Vals zs ws → Vals (zs[i]?).toList (ws[i]?).toList
  | _, _, i, .nil => .nil
  | _, _, 0, .cons r t => .cons r .nil
  | _, _, i + 1, .cons r t => by simpa using vals_at (i := i) t
theorem vals_one : ∀ {zs : List V} {ws : List Value}, Vals zs ws → Vals (zs.take 1) (ws.take 1)
  | _, _, .nil => .nil
  | _, _, .cons r t => .cons r .nil
theorem vals_rest : ∀ {zs : List V} {ws : List Value}, Vals zs ws → Vals (zs.drop 1) (ws.drop 1)
  | _, _, .nil => .nil
  | _, _, .cons r t => t
theorem pickW_vals {zs : List V} {ws : List Value} (h : Vals zs ws) : ∀ {sel : List (Option Nat)} {ms : List V} {mv : List Value}, Vals ms mv → Vals (pickW sel ms zs) (pickW sel mv ws)
  | [], _, _, _ => .nil
  | some i :: r, _, _, hm => vals_app (vals_at h) (pickW_vals h hm)
  | none :: r, _, _, hm => vals_app (vals_one hm) (pickW_vals h (vals_rest hm))
section
variable {M : Mx} {F : Hp}
theorem reps_app : ∀ {vs ws : List V} {ds es : List D}, Reps M F vs ds → Reps M F ws es → Reps M F (vs ++ ws) (ds ++ es)
  | _, _, _, _, .nil, h => h
  | _, _, _, _, .cons r t, h => .cons r (reps_app t h)
theorem reps_at : ∀ {zs : List V} {es : List D} {i : Nat}, Reps M F zs es → Reps M F (zs[i]?).toList (es[i]?).toList
  | _, _, i, .nil => .nil
  | _, _, 0, .cons r t => .cons r .nil
  | _, _, i + 1, .cons r t => by simpa using reps_at (i := i) t
theorem reps_one : ∀ {zs : List V} {es : List D}, Reps M F zs es → Reps M F (zs.take 1) (es.take 1)
  | _, _, .nil => .nil
  | _, _, .cons r t => .cons r .nil
theorem reps_rest : ∀ {zs : List V} {es : List D}, Reps M F zs es → Reps M F (zs.drop 1) (es.drop 1)
  | _, _, .nil => .nil
  | _, _, .cons r t => t
theorem pickW_reps {zs : List V} {es : List D} (h : Reps M F zs es) : ∀ {sel : List (Option Nat)} {ms : List V} {md : List D}, Reps M F ms md → Reps M F (pickW sel ms zs) (pickW sel md es)
  | [], _, _, _ => .nil
  | some i :: r, _, _, hm => reps_app (reps_at h) (pickW_reps h hm)
  | none :: r, _, _, hm => reps_app (reps_one hm) (pickW_reps h (reps_rest hm))
end
def pkV (sel : List (Option Nat)) (ms vs zs : List V) : List V := vs ++ pickW sel ms zs
def pkD (sel : List (Option Nat)) (md ds es : List D) : List D := ds ++ pickW sel md es
theorem pk_reps {M : Mx} {sel : List (Option Nat)} {ms : List V} {md : List D} (hm : ∀ F, Reps M F ms md) : ∀ F vs ds zs es, Reps M F vs ds → Reps M F zs es → Reps M F (pkV sel ms vs zs) (pkD sel md ds es) := fun F _ _ _ _ h1 h2 => reps_app h1 (pickW_reps h2 (hm F))
theorem kb_of {K : PySem.W.Frag} {x qual : Str} {params : Arguments} {body : List Stmt} {scope : Scope} {kds : List (Str × V)} {f : Addr} {fd : FuncData} {ps : List Str} (F : FunD K x qual params body scope [] kds f fd) (n : Nat) (ks : List Str) (sel : List (Option Nat)) (ms : List (Str × V)) (h1 : kds ≠ []) (h2 : ∀ q ∈ ms, q ∈ kds)
    (h : ∀ (T : Addr) (doc pm : Value) (an : Option Addr) (cdv ct : Value) (us mv ws : List Value), us.length = n → mv.length = ms.length → ws.length = ks.length →
      KwChain T ((ms.map (·.1)).zip mv) (bindArgs (PySem.W.fnOf x qual params body scope .none (.ref T) doc pm an cdv ct) ⟨us, ks.zip ws⟩) (ps.zip (us ++ pickW sel mv ws))) :
    ∃ g, KBn K fd ps n ks g (pkV sel (ms.map (·.2))) := by
  obtain ⟨mv, kb⟩ := F.kbinds0 (ps := ps) n ks ms (fun us mv ws => us ++ pickW sel mv ws) h1 h2 (fun r1 r2 r3 => vals_app r1 (pickW_vals r3 r2)) h
  exact ⟨_, kb⟩
structure DefAtK (M : Mx) (x : Str) (st : Stmt) (ps : List Str) (kds : List (Str × V)) where
  f : Addr
  fd : FuncData
  g : M.mg x = some (.ref f)
  kp : PySem.W.keepIn M.K (.ref f) = true
  fu : FunD M.K x x (defArgs st) (defBody st) (defScope st) [] kds f fd
def DefAtK.cal {M : Mx} {P : Program} {w : World} {base : Heap} {j : Nat} {x : Str} {st : Stmt} {ps : List Str} {kds : List (Str × V)} {n : Nat} {mm : SE → R RV} (d : DefAtK M x st ps kds) (ok : FnOk P w M.K M.mg base (L2.CX P w) j d.f d.fd ps (spD M n mm)) : CalK P w base M x st ps kds j n mm := ⟨d.f, d.fd, d.g, d.kp, d.fu, ok⟩
theorem fn_DK {M : Mx} {P : Program} {w : World} {base : Heap} {x qual : Str} {st : Stmt} {f : Addr} {fd : FuncData} {N ps : List Str} {k : Nat} {mb : DM Fl} {kds : List (Str × V)} (Fu : FunD M.K x qual (defArgs st) (defBody st) (defScope st) [] kds f fd) (S : FnScope N ps (defScope st))
    (hb : ∀ (cdv : Value) (A : Around) (outer : List Env) (s : Shared) (H : Hp) (E : XK), Room k (A.deeper (envOfC qual (defScope st) s.heap.objs.size f cdv)) →
      DSs (cxOf (L2.CX P w) P w M.K M.mg base N qual (defScope st) f cdv A outer s H E) M (fun cls d _ H' => E cls d H') (defBody st) mb) :
    FnOk P w M.K M.mg base (L2.CX P w) (k + 1) f fd ps (spD M ps.length (mFn N.length mb)) := by
  have hN : ps.length ≤ N.length := by
    have := congrArg List.length S.pre
    rw [List.length_take] at this
    omega
  exact Fu.ok S (fun vs H Q E h => by
    obtain ⟨F, svs, h1, _⟩ := h
    exact h1) fun cdv A outer s H vs Q E hr h => fn_body hN (hb cdv A outer s H E hr) h
def cWK (n m N : Nat) (g : List D → List D → List D) (mm : SE → R RV) (as zs : Option (List D)) (ρ : SE) : R RV := match as, zs with
  | some ds, some es => if ds.length = n ∧ es.length = m ∧ (g ds es).length = N then callR mm ((g ds es).map AV.d) ρ else .bad
  | _, _ => .bad
@[simp ↓, simp] theorem u_dCallW {n m N : Nat} {g : List D → List D → List D} {mm : SE → R RV} {ms mk : DM (List AV)} {ρ : SE} {c : Cont RV} : Wp (dCallW n m N g mm ms mk ρ) = Wp ((ms ρ).bind fun as ρ1 => (mk ρ1).bind fun zs ρ2 => cWK n m N g mm (avD as) (avD zs) ρ2 : R RV) := rfl
@[simp] theorem cWK_ok {n m N : Nat} {sel : List (Option Nat)} {md ds es : List D} {mm : SE → R RV} {ρ : SE} : cWK n m N (pkD sel md) mm (some ds) (some es) ρ = if ds.length = n ∧ es.length = m ∧ (ds ++ pickW sel md es).length = N then callR mm ((ds ++ pickW sel md es).map AV.d) ρ else .bad := rfl
@[simp] theorem pickW_nil {α : Type} {ms zs : List α} : pickW [] ms zs = [] := rfl
@[simp] theorem pickW_some {α : Type} {i : Nat} {r : List (Option Nat)} {ms zs : List α} : pickW (some i :: r) ms zs = (zs[i]?).toList ++ pickW r ms zs := rfl
@[simp] theorem pickW_none {α : Type} {r : List (Option Nat)} {ms zs : List α} : pickW (none :: r) ms zs = ms.take 1 ++ pickW r (ms.drop 1) zs := rfl
end DL

/- part -/
set_option Elab.async false
set_option linter.all false
set_option maxRecDepth 100000
set_option maxHeartbeats 4000000
namespace DL
open PySem PySem.Spec PyProof.Rows L2
structure FnG (P : Program) (w : World) (K : PySem.W.Frag) (mg : Str → Option Value) (base : Heap) (k : Nat) (f : Addr) (fd : FuncData) (ps : List Str) (S : Sp) : Prop where
  len : ∀ xs H Q E, S xs H Q E → xs.length = ps.length
  go : ∀ (A : Around) (outer : List Env) (s : Shared) (H : Hp) (args : Args) (us : List Value) (xs : List V) (Q : VK) (E : XK), A.guards = some [] → Room k A → Env0 P w K mg base A outer s H → BindsTo s fd args (ps.zip us) → Vals xs us → S xs H Q E →
    codeAny (model P w) A (.call (.ref f) args) (CR (L2.CX P w) outer P w H s Q E) s
theorem FnG.imp {P : Program} {w : World} {K : PySem.W.Frag} {mg : Str → Option Value} {base : Heap} {k : Nat} {f : Addr} {fd : FuncData} {ps : List Str} {S S' : Sp} (F : FnG P w K mg base k f fd ps S) (h : ∀ xs H Q E, S' xs H Q E → S xs H Q E) : FnG P w K mg base k f fd ps S' :=
  ⟨fun xs H Q E z => F.len xs H Q E (h xs H Q E z), fun A outer s H args us xs Q E g r e b v z => F.go A outer s H args us xs Q E g r e b v (h xs H Q E z)⟩
section
variable {P : Program} {w : World} {base : Heap} {N : List Str} {sc : Scope} {j : Nat}
variable {X : Cx} {M : Mx} {W : WX} {a : Expr} {es : List Expr} {ma : DM RV} {ms : DM (List AV)} {x : Str} {p pos : Pos}
end
end DL

/- part -/
set_option Elab.async false
set_option linter.all false
set_option maxRecDepth 100000
set_option maxHeartbeats 4000000
namespace DL
open PySem PySem.Spec PyProof.Rows L2
end DL

/- part -/
set_option Elab.async false
set_option linter.all false
set_option maxRecDepth 100000
set_option maxHeartbeats 4000000
namespace DL
open PySem PySem.Spec PyProof.Rows L2
section
variable {P : Program} {w : World} {base : Heap} {N : List Str} {sc : Scope} {j : Nat} {M : Mx} {W : WX} {X : Cx} {a b : Expr} {ma mb : DM RV} {pos : Pos}
theorem dt_xnotIn (C : CxD P w base M N sc j X W) (hW : M.w = w) (ha : DE X M W a ma) (hb : DE X M W b mb) (hm : behindInMarks .NotIn b = false := by rfl) : DT X M W (.Compare a [.NotIn] [b] pos) (fun ρ => (dOp2 (xinD true) ma mb ρ).bind asB) := dt_tOp (op_xnotIn (hW.trans C.hw.symm) C.hK C.u64) ha hb (o2_xin true) hm
end
end DL

/- part -/
set_option Elab.async false
set_option linter.all false
set_option maxRecDepth 100000
set_option maxHeartbeats 4000000
namespace DL
open PySem PySem.Spec PyProof.Rows L2
section
variable {P : Program} {w : World} {α : Type} {M : Mx} {W : WX} {X Y : Cx} {F H F' H' F1 H1 H0 : Hp} {σ σ1 σ' : L2.St} {ρ ρ1 ρ' : SE} {q : Addr} {o : HO}
variable {tg iter elt e tg1 iter1 : Expr} {ifs ifs1 : List Expr} {vs vs1 sl sl1 : List Nat} {gm gm1 : D → SE → R Unit} {mt mt1 : DM Bool} {me : DM RV} {mi mi1 : DM (List D)}
theorem ps_comp {i : Nat} {y : Str} {py spos : Pos} (hy : X.N[i]? = some y) (hyl : X.env.scope.names.lookup y = some .local) (hsw : swapsWith e (some (.Name y py)) spos.line X.env = pure true) {csc : Scope} {own : List (Str × Nat)} {gs : List Comprehension} {newAcc : Sem Value} {nob : Obj} {p0 : Pos} (Ks : ∀ q, AK0 X.prog X.w M q α) (a0 : α) {body : α → DM α} (B : Expr → Value → Env → Sem Fin → Sem Fin) (fr : Fr e 0) (cl : clausesOf e = ⟨tg, iter, ifs, 0⟩ :: gs)
    (hev : ∀ u, evalThenUse e X.env u = (do let _ ← comprehension e csc X.env p0 newAcc false (eval iter X.env) (some u))) (hs : ∀ x, foldedSetIterable iter X.env x = pure x) (hc : X.calm = true) (hN : X.N.Nodup) (ok : BlkOk X.N X.env.scope csc own)
    (hnew : ∀ (s : Shared) (Q : Value → Shared → Prop), Q (.ref s.heap.objs.size) { s with heap := s.heap.push nob } → wpAny (model X.prog X.w) X.A newAcc Q X.xe s) (first : ∀ (F H : Hp) (h : Heap), sysModules < h.objs.size → ∃ o, (Ks h.objs.size).rel F a0 o ∧ ∀ H', ObjOk X.prog X.w H' (h.push nob) h.objs.size o)
    (di : DI X M W tg iter mi) (dg : ∀ Y, BlkC X csc Y → DG Y M tg sl gm) (dt : ∀ Y, BlkC X csc Y → DTs Y M W0 ifs mt) (hsl : ∀ i ∈ sl, i ∈ own.map (·.2)) 
    (shape : ∀ (it q : Addr) (env : Env), compTurn e 0 (.ref it) (.ref q) env = stepC tg iter ifs (B e (.ref q) env) (.compLoop e 0 (.ref it) (.ref q) env) (.ref it) env)
    (bd : ∀ q Y, BlkC X csc Y → ∀ (hP : Y.prog = X.prog) (hw : Y.w = X.w), BdOk Y (Ks q) (own.map (·.2)) (B e (.ref q) Y.env) body) :
    PS X (.Assign [.Name y py] e spos) (tAsg (fun σ H Q => ∃ F ρ, Sim M F H σ ρ ∧ PostK W Ks σ ρ F H ((mi ρ).bind fun ds ρ1 => noEx (cRun (own.map (·.2)) gm mt body ds a0 ρ1)) Q) (gName i)) := by
  refine ⟨fun pins s σ H D I h => ?_⟩
  obtain ⟨F, ρ, sm, po⟩ : ∃ F ρ, Sim M F H σ ρ ∧ PostK W Ks σ ρ F H ((mi ρ).bind fun ds ρ1 => noEx (cRun (own.map (fun z : Str × Nat => z.2)) gm mt body ds a0 ρ1)) (fun x H1 => gName i x σ H1 D.nx) := h
  rw [exec_Assign_Name_used _ _ _ _ hsw, hev]
  refine wpAny_bind (wpAny_standAt (wpAny_bind (wpAny_bind (wpAny_mono (Q := fun _ s' => SP X pins D .next s') ?_ (fun _ s' hq => wpAny_pure (wpAny_pure hq)) fun _ _ z => z))))
  have hfree : ∀ y ∈ csc.names, y.2 = .free → ∃ c, X.env.cells.lookup y.1 = some c := fun y hy z => (ok.free y hy z).elim (fun k => I.ok.has _ (.inl k)) fun k => I.ok.has _ (.inr k)
  refine wpAny_comprehension_free (use := some (assign (.Name y py) X.env)) cl hs (closure_ok hfree) ok.kind (fun y hy z => by rw [ok.uniq y hy, z]) ?_
  refine thn (di.can.run pins s σ H (fun J H1 => ∃ ds ρ1 F1, mi ρ = .ok ds ρ1 ∧ Stp F H σ ρ F1 H1 σ ρ1 ∧ Sim M F1 H1 σ ρ1 ∧ ItOk M J F1 ds) I ⟨F, ρ, sm, ?_⟩) fun xv s1 hx => thn hx fun itv s2 h2 => ?_
  · cases em : mi ρ with
    | bad =>
      rw [em] at po
      exact po
    | ok ds ρ1 => exact fun F1 H1 J z1 z2 z3 => ⟨ds, ρ1, F1, rfl, z1, z2, z3⟩
    | ex x ρ1 =>
      rw [em] at po
      exact po
  obtain ⟨it, fp, tn, J, H2, eit, I2, T, t2, f2, ds, ρ1, F1, em, st1, sm1, ik⟩ := h2
  subst eit
  rw [em] at po
  have po : PostK W Ks σ ρ F H (noEx (cRun (own.map (·.2)) gm mt body ds a0 ρ1)) (fun x H1 => gName i x σ H1 D.nx) := po
  cases er : cRun (own.map (·.2)) gm mt body ds a0 ρ1 with
  | bad =>
    rw [er] at po
    exact po.elim
  | ex x ρ2 =>
    rw [er] at po
    exact po.elim
  | ok a' ρ2 =>
    rw [er] at po
    refine hnew s2 _ (newEnv_comp ?_)
    obtain ⟨o, r0, okN⟩ := first F1 H2 s2.heap I2.big
    have nq : H2 s2.heap.objs.size = none := I2.hok.fresh (Nat.le_refl _)
    have I3 : Inv X pins σ (upd H2 s2.heap.objs.size o) { s2 with heap := s2.heap.push nob } := I2.laid (t' := s2.toks) (fun b u z => Heap.get?_push_of_some _ z) (Nat.le_refl _) (okN _)
    generalize hs3 : ({ s2 with heap := s2.heap.push nob } : Shared) = s3 at I3
    have hh3 : s3.heap = s2.heap.push nob := by rw [← hs3]
    have f3 : ∀ b ∈ fp, FpOk X pins (upd H2 s2.heap.objs.size o) b ∧ b < s3.heap.objs.size := fun b hb => by
      obtain ⟨u, hu, _⟩ := T.obj _ _ t2 b hb
      have lt := Heap.lt_size hu
      refine ⟨⟨?_, (f2 b hb).2⟩, by rw [hh3, Heap.size_push]; exact Nat.lt_succ_of_lt lt⟩
      rw [upd_ne (Nat.ne_of_lt lt)]
      exact (f2 b hb).1
    have t3 : tn 0 s3.heap := T.keep _ _ _ t2 fun b _ u z => by
      rw [hh3]
      exact Heap.get?_push_of_some _ z
    have I4 := block_start I3 ok hN f3
    have fq : (upd H2 s2.heap.objs.size o) s2.heap.objs.size = some o := upd_same
    have msk : off (upd H2 s2.heap.objs.size o) s2.heap.objs.size = H2 := by rw [off_upd, off_none nq]
    generalize s2.heap.objs.size = q at *
    show codeAny _ _ (.compStart e 0 (.ref it) (.ref q) (compEnvC csc (cellsFrom (s3.heap.objs.size + 1) csc.names (cloFrom X.env.cells csc.names [])) s3.heap.objs.size X.env)) (compPost (model X.prog X.w) X.A X.xe (some (assign (.Name y py) X.env)) (fun _ s' => SP X pins D .next s') (.ref q) s3.heap.objs.size) { s3 with heap := pushCells (s3.heap.push { cls := .type "dict", data := .dict #[] }) csc.names }
    have bY : BlkC X csc (X.blk s3 (upd H2 q o) csc (compEnvC csc (cellsFrom (s3.heap.objs.size + 1) csc.names (cloFrom X.env.cells csc.names [])) s3.heap.objs.size X.env) fp) := ⟨_, _, _, _, _, rfl⟩
    generalize hs4 : ({ s3 with heap := pushCells (s3.heap.push { cls := .type "dict", data := .dict #[] }) csc.names } : Shared) = s4 at I4
    have t4 : tn 0 s4.heap := T.keep _ _ _ t3 fun b _ u z => by
      rw [← hs4]
      exact pushCells_keeps _ _ _ _ (Heap.get?_push_of_some _ z)
    generalize hY : X.blk s3 (upd H2 q o) csc (compEnvC csc (cellsFrom (s3.heap.objs.size + 1) csc.names (cloFrom X.env.cells csc.names [])) s3.heap.objs.size X.env) fp = Z at I4 bY
    have zP : Z.prog = X.prog := by rw [← hY]
    have zw : Z.w = X.w := by rw [← hY]
    have zK : Z.K = X.K := by rw [← hY]
    have zA : Z.A = X.A := by rw [← hY]
    have zC : Z.calm = true := by rw [← hY]; exact hc
    have zE : ∀ x s, ¬ Z.xe x s := fun x s z => by
      rw [← hY] at z
      exact z
    have zenv : Z.env = compEnvC csc (cellsFrom (s3.heap.objs.size + 1) csc.names (cloFrom X.env.cells csc.names [])) s3.heap.objs.size X.env := by rw [← hY]
    have ff : ∀ H' s', Inv Z [] (L2.wipe σ (own.map (·.2))) H' s' → (∀ b ∈ fp, H' b = none) → ∀ b ∈ fp, FpOk Z [] H' b := fun H' s' I' hn b hb => by
      subst hY
      exact ⟨hn b hb, (I'.ok.exf b hb).1, I'.ok.exfs b hb, .inl hb, fun x c z => (I'.ok.exf b hb).2 x c z, fun p hp => absurd (show p ∈ ([] : List (Addr × Obj)) ++ [] from hp) (by simp)⟩
    have loop : codeAny (model X.prog X.w) X.A (.compLoop e 0 (.ref it) (.ref q) Z.env) (compPost (model X.prog X.w) X.A X.xe (some (assign (.Name y py) X.env)) (fun _ s' => SP X pins D .next s') (.ref q) s3.heap.objs.size) s4 := by
      have T' : Turn Z.prog Z.w Z.K tg J fp it tn := by
        rw [zP, zw, zK]
        exact T
      have B' := bd q Z bY zP zw
      rw [← zP, ← zw, ← zA]
      refine loop_ok (K := Ks q) (B := B e (.ref q) Z.env) fr zC zE (shape it q Z.env) (dg Z bY) (dt Z bY) hsl (by rw [← zP, ← zw] at *; exact B') T' ik I4 ff (fun b hb => (f3 b hb).1.1) t4 (by rw [msk]; exact sm1) fq r0 er ?_
      intro F' H' o' s6 I6 st6 sm6 q6 r6 n6
      rw [msk] at st6
      rw [zP, zw, zA]
      subst hY
      have I7 : Inv X pins σ H' s6 := I3.call' (ch := fp) I6.os I6.base I6.hok I6.bare fun b hb => ⟨(f3 b hb).1.2.2.2.1, (f3 b hb).1.2.1, (f3 b hb).1.2.2.2.2.1, (f3 b hb).1.2.2.2.2.2⟩
      have nC : H' s3.heap.objs.size = none := I6.free
      obtain ⟨m, hn, _⟩ := I6.loc
      obtain ⟨g0, g1, g2, g3, g4, g5⟩ := I3.fpOk (H' := H') (Nat.le_refl _) nC
      have fq0 : Fre H q := st1.dom q (.of nq)
      have F'q : F' q = none := sm6.sub.free off_at
      have nO' : ¬ Own σ ρ2 q := fun z => by
        obtain ⟨_, u, e, _⟩ := sm6.ownF z
        rw [off_at] at e
        cases e
      have q7 : D.nx (σ.set i (some (.ref q))) H' := po F' H' q o' (st1.trans (unstp st6)) (unmask sm6) q6 r6 F'q nO' fq0
      show wpAny _ _ (assign (.Name y py) X.env (.ref q)) _ _ _
      refine wpAny_assign_Name (store_ok2 (v := V.ref q) I7 hN hy (.inl hyl) rfl (fun s8 I8 ⟨c, sb, hc⟩ => ?_) (.inr hyl))
      have nc : s3.heap.objs.size ≠ c := by
        rcases hc with z | z
        · rw [z]
          exact g1
        · exact fun w => g4 y c z w.symm
      exact ⟨m, hn.sameBut sb nc, fun h9 sb9 => ⟨_, H', I8.turned (t' := s8.toks) (fun b u hb z => (sb9.2 b hb).trans z) g0 g1 g3 g4 g5, q7⟩⟩
    rw [← zenv]
    have hE0 : ∀ x s, ¬ (fun (_ : Value) (_ : Shared) => False) x s := fun _ _ z => z
    exact start_ok fr (by rw [cl]; rfl) loop (T.self X.A 0 _ _ _ t4 loop) hE0
end
section
variable {M : Mx} {X : Cx} {pins : List (Addr × Obj)} {σ : L2.St} {H : Hp} {s : Shared} {a : Addr} {us ws : List V} {ks vs : List D} {y v z : V} {k : D} {u r : Value} {A : Around} {E : Value → Shared → Prop}
variable {P : Program} {w : World} {base : Heap} {N : List Str} {sc csc : Scope} {j : Nat}
variable {M : Mx} {W : WX} {X Y : Cx} {F H F' H' F1 H1 H0 : Hp} {σ σ1 σ' : L2.St} {ρ ρ1 ρ' : SE} {q : Addr} {o : HO}
variable {tg iter elt e kx vx : Expr} {ifs : List Expr} {own : List (Str × Nat)} {vs sl : List Nat} {gm : D → SE → R Unit} {mt : DM Bool} {me mk mv : DM RV} {mi : DM (List D)} {pos p : Pos}
theorem q_dc {vs : List Nat} {mi : DM (List D)} {gm : D → SE → R Unit} {mt : DM Bool} {body : (List D × List D) → DM (List D × List D)} {X : Cx} {M : Mx} {W : WX} : ∀ σ H F ρ Q, Sim M F H σ ρ → Post M W σ ρ F H (dDc (dGat vs mi gm mt body ([], [])) ρ) Q → ∃ F' ρ', Sim M F' H σ ρ' ∧ PostK W (fun q => (dctK X.prog X.w M q)) σ ρ' F' H (dGat vs mi gm mt body ([], []) ρ') Q := fun σ H F ρ Q sm h => ⟨F, ρ, sm, by
  have h : Post M W σ ρ F H ((dGat vs mi gm mt body ([], []) ρ).bind fun a ρ1 => .ok (.ow (.xt .dct a.1 a.2)) ρ1) Q := h
  show PostK W _ σ ρ F H (dGat vs mi gm mt body ([], []) ρ) Q
  cases er : dGat vs mi gm mt body ([], []) ρ with
  | bad =>
    rw [er] at h
    exact h.elim
  | ex x ρ2 =>
    rw [er] at h
    exact h
  | ok a ρ2 =>
    rw [er] at h
    rintro F' H' q o st sm' hq ⟨a', us, ws, eo, r1, r2⟩ nF nO fr
    subst eo
    exact h F' H' _ st sm' ⟨q, _, rfl, hq, nF, .xt r1 r2, nO, fr⟩⟩
theorem ds_setDc {y : Str} {py spos : Pos} (C : CxD P w base M N sc j X W) (hMw : M.w = w) (i : Nat) (hyl : sc.names.lookup y = some .local) (hl : (py.line == pos.line) = true) (hcl : (csc.names.any fun (n, k) => n == y && (k == .local || k == .cell)) = false) (own : List (Str × Nat)) (ok : BlkOk N sc csc own) (hi : DI X M W tg iter mi)
    (hg : ∀ (s : Shared) (H : Hp) (Ca : Addr) (cl : List (Str × Addr)) (fp : List Addr), DG (X.blk s H csc (compEnvC csc cl Ca X.env) fp) M tg sl gm) (ht : ∀ (s : Shared) (H : Hp) (Ca : Addr) (cl : List (Str × Addr)) (fp : List Addr), DTs (X.blk s H csc (compEnvC csc cl Ca X.env) fp) M W0 ifs mt)
    (hk : ∀ (s : Shared) (H : Hp) (Ca : Addr) (cl : List (Str × Addr)) (fp : List Addr), DE (X.blk s H csc (compEnvC csc cl Ca X.env) fp) M W0 kx mk) (hv : ∀ (s : Shared) (H : Hp) (Ca : Addr) (cl : List (Str × Addr)) (fp : List Addr), DE (X.blk s H csc (compEnvC csc cl Ca X.env) fp) M W0 vx mv)
    (hsl : ∀ i ∈ sl, i ∈ own.map (·.2) := by decide) (hs : ∀ x, foldedSetIterable iter X.env x = pure x := by intro _; rfl) (hi2 : N[i]? = some y := by rfl) (hev : ∀ u, evalThenUse (.DictComp kx vx [⟨tg, iter, ifs, 0⟩] csc pos) X.env u = (do let _ ← comprehension (.DictComp kx vx [⟨tg, iter, ifs, 0⟩] csc pos) csc X.env (firstIterPos [⟨tg, iter, ifs, 0⟩] pos) newDict false (eval iter X.env) (some u)) := by intro _; rfl) :
    DS X M W (.Assign [.Name y py] (.DictComp kx vx [⟨tg, iter, ifs, 0⟩] csc pos) spos) (sSet i (dDc (dGat (own.map (·.2)) mi gm mt (cEmD mk mv) ([], [])))) := by
  have sw : swapsWith (.DictComp kx vx [⟨tg, iter, ifs, 0⟩] csc pos) (some (.Name y py)) spos.line X.env = pure true := by
    have ky : X.env.kindOf y = some .local := by
      show X.env.scope.names.lookup y = _
      rw [C.hs]
      exact hyl
    have hb : X.env.blockKind = .function := by
      unfold Env.blockKind
      rw [C.hs, C.hf]
      rfl
    unfold swapsWith
    simp only [hb, ky, hcl, Expr.pos, hl]
    rfl
  refine ⟨_, ps_comp (C.ix hi2) (by rw [C.hs]; exact hyl) sw (W := W) (nob := newD) (fun q => dctK X.prog X.w M q) ([], []) (fun _ acc env => emD kx vx acc env) fr_of rfl hev hs C.cm C.nd' (by rw [C.hN, C.hs]; exact ok) (fun s Q h => wpAny_newObj_type h)
    (fun F H h hb => ⟨XtO M .dct (h.objs.size, newD) [] [] [] [], ⟨_, [], [], rfl, .nil, .nil⟩, fun H' => dct_new (Heap.get?_push_size _ rfl) (dct_empty hb)⟩) hi
    (fun Y ⟨s, H, Ca, cl, fp, e⟩ => e ▸ hg s H Ca cl fp) (fun Y ⟨s, H, Ca, cl, fp, e⟩ => e ▸ ht s H Ca cl fp) hsl (fun it q env => rfl)
    (fun q Y ⟨s, H, Ca, cl, fp, e⟩ hP hw => by
      subst e
      exact bd_emD (Y := X.blk s H csc (compEnvC csc cl Ca X.env) fp) rfl rfl C.hK (hMw.trans C.hw.symm) C.u64 (hk s H Ca cl fp) (hv s H Ca cl fp)), ?_⟩
  exact q_set (q_dc (X := X))
end
end DL

/- part -/
set_option Elab.async false
set_option linter.all false
set_option maxRecDepth 100000
set_option maxHeartbeats 4000000
namespace DL
open PySem PySem.Spec PyProof.Rows L2
section
variable {X : Cx} {M : Mx} {W : WX} {a b c d : Expr} {ma mb mc md : DM RV} {ta tb tc td : TE} {pos : Pos}
end
section
variable {ρ : SE}
end
@[simp] theorem callR_6 {mf : SE → R RV} {ρ : SE} {d1 d2 d3 d4 d5 d6 : D} : callR mf [.d d1, .d d2, .d d3, .d d4, .d d5, .d d6] ρ = retR (mf [.im d1, .im d2, .im d3, .im d4, .im d5, .im d6]) ρ := callR_no rfl
end DL

/- part -/
set_option Elab.async false
set_option linter.all false
set_option maxRecDepth 100000
set_option maxHeartbeats 4000000
namespace DL
open PySem PySem.Spec PyProof.Rows L2
section
variable {X : Cx} {M : Mx} {W : WX} {sts : List Stmt}
def sBad : DM Fl := fun _ => .bad
theorem dss_bad : DSs X M W sts sBad := ⟨tNever, pss_never, fun _ _ _ _ _ _ h => h.elim⟩
@[simp] theorem sBad_wp {ρ : SE} {c : Cont Fl} : Wp (sBad ρ) = @Wp Fl .bad c := rfl
end
end DL

/- part -/
set_option Elab.async false
set_option linter.all false
set_option maxRecDepth 100000
set_option maxHeartbeats 1000000
namespace DL
open PySem PySem.Spec PyProof.Rows L2
end DL

/- part -/
set_option Elab.async false
set_option linter.all false
set_option maxRecDepth 100000
set_option maxHeartbeats 1000000
namespace DL
open PySem PySem.Spec PyProof.Rows L2
section
variable {P : Program} {w : World} {base : Heap} {N : List Str} {sc : Scope} {j : Nat} {M : Mx} {W : WX} {X : Cx} {m : DM RV}
end
end DL

/- part -/
set_option Elab.async false
set_option linter.all false
set_option maxRecDepth 100000
set_option maxHeartbeats 2000000
namespace DL
open PySem PySem.Spec PyProof.Rows L2
section
variable {X : Cx} {k : Nat} {C f : Addr} {fd : FuncData} {ps : List Str} {sp : Sp}
end
section
variable {P : Program} {w : World} {base : Heap} {N : List Str} {sc : Scope} {j : Nat}
variable {M : Mx} {W : WX} {X : Cx} {F H F' H' F1 H1 F2 H2 : Hp} {σ : L2.St} {ρ ρ1 ρ2 : SE}
variable {a b : Expr} {ma mb : DM RV} {pos : Pos} {cl : Str} {mm : SE → R RV} {k : Nat}
end
end DL

/- part -/
set_option Elab.async false
set_option linter.all false
set_option maxRecDepth 100000
set_option maxHeartbeats 2000000
namespace DL
open PySem PySem.Spec PyProof.Rows L2 PySem.Froz
section
variable {X : Cx} {a : Expr} {p p2 q pos : Pos}
end
section
variable {P : Program} {w : World} {base : Heap} {N : List Str} {sc : Scope} {j : Nat} {M : Mx} {W : WX} {X : Cx} {a : Expr} {ma : DM RV} {p p2 q pos : Pos}
end
end DL

/- part -/
set_option Elab.async false
set_option linter.all false
set_option maxRecDepth 100000
set_option maxHeartbeats 1000000
namespace DL
open PySem PySem.Spec PyProof.Rows L2
section
variable {X : Cx} {x1 x2 : Str} {c1 c2 : Value} {body : List Stmt} {p1 p2 tp pos pos' pr : Pos} {kk : Nat} {tb : L2.WX → TS} {re : Expr} {rv : V}
end
section
variable {P : Program} {w : World} {base : Heap} {N : List Str} {sc : Scope} {j : Nat}
variable {M : Mx} {W : WX} {X : Cx} {x1 x2 : Str} {body : List Stmt} {mb : DM Fl} {p1 p2 tp pos pos' pr : Pos} {kk : Nat} {re : Expr} {rv : V} {d : D}
theorem CxF.tr (C : CxF P w base M N sc j X W) {pn : List (Addr × Obj)} {xe : Value → Shared → Prop} {W' : WX} (tk : Takes (X.tr pn xe) W') (hp : PassesOwn (model X.prog X.w) X.A X.env xe) : CxF P w base M N sc j (X.tr pn xe) W' :=
  ⟨⟨C.hP, C.hw, C.hB, C.hK, C.hM, C.hN, C.hs, C.hf, C.nd, C.cm, C.hr, tk⟩, C.fn, hp⟩
end
section
variable {x1 x2 : Str} {mb : DM Fl} {d : D} {ρ : SE} {Q : Fl → SE → Prop} {E : Exc → SE → Prop}
end
end DL

/- part -/
set_option Elab.async false
set_option linter.all false
set_option maxRecDepth 100000
set_option maxHeartbeats 1000000
namespace DL
open PySem PySem.Spec PyProof.Rows L2
section
variable {P : Program} {w : World} {base : Heap} {N : List Str} {sc : Scope} {j : Nat}
variable {M : Mx} {W : WX} {X : Cx} {a : Expr} {mv : DM (List D)} {p pos : Pos}
end
end DL

/- part -/
set_option Elab.async false
set_option linter.all false
set_option maxRecDepth 100000
set_option maxHeartbeats 1000000
namespace DL
open PySem PySem.Spec PyProof.Rows L2
section
variable {P : Program} {w : World} {base : Heap} {N : List Str} {sc : Scope} {j : Nat}
variable {M : Mx} {W : WX} {X : Cx} {F H F' H' F1 H1 F2 H2 H0 : Hp} {σ σ1 : L2.St} {ρ ρ1 ρ2 : SE}
variable {a b c e o : Expr} {ma mb m mo : DM RV} {pos p p' q1 q2 apos cpos bpos : Pos} {x f : Str}
end
end DL

/- part -/
set_option Elab.async false
set_option linter.all false
set_option maxRecDepth 100000
set_option maxHeartbeats 1000000
namespace DL
open PySem PySem.Spec PyProof.Rows L2
section
variable {M : Mx} {X : Cx} {sl : List Nat} {tgs : List Expr} {gms : List D → SE → R Unit} {pos : Pos} {ρ : SE}
end
end DL

/- part -/
set_option Elab.async false
set_option linter.all false
set_option maxRecDepth 100000
set_option maxHeartbeats 4000000
namespace DL
open PySem PySem.Spec PyProof.Rows L2
def aTmp (m : DM RV) : DM (List D × OC) := fun ρ => (m ρ).bind fun r ρ1 => match r with
  | .ow oc => .ok ([], oc) ρ1
  | _ => .bad
def aConsT (ma : DM RV) (ms : DM (List D × OC)) : DM (List D × OC) := fun ρ => (dFz ma ρ).bind fun d ρ1 => (ms ρ1).bind fun as ρ2 => .ok (d :: as.1, as.2) ρ2
def tmpIo (o : Option SV) : Bool := match o with
  | some (.ow true _) => true
  | _ => false
def callT (n : Nat) (m : SE → R RV) (as : List D × OC) (ρ1 : SE) : R RV := if as.1.length + 1 = n then (match m (as.1.map SV.im ++ [.ow true as.2]) with
    | .bad => .bad
    | .ok r svs => if notBo r = true then (if tmpIo svs[as.1.length]? = true then .ok r ρ1 else .bad) else .bad
    | .ex e svs => if tmpIo svs[as.1.length]? = true then .ex e ρ1 else .bad) else .bad
def dCallT (n : Nat) (m : SE → R RV) (ms : DM (List D × OC)) : DM RV := fun ρ => (ms ρ).bind fun as ρ1 => callT n m as ρ1
section
variable {M : Mx} {W : WX} {X : Cx} {F H F' H' F1 H1 F2 H2 H0 : Hp} {σ σ1 : L2.St} {ρ ρ1 ρ2 : SE}
def TmpOk (M : Mx) (H0 F H : Hp) (σ : L2.St) (ρ : SE) (a : Addr) (oc : OC) : Prop := ∃ o, H a = some o ∧ F a = none ∧ OcRep M F o oc ∧ ¬ Own σ ρ a ∧ Fre H0 a
def PostAT (M : Mx) (W : WX) (σ : L2.St) (ρ : SE) (F H : Hp) (r : R (List D × OC)) (Q : List V → Hp → Prop) : Prop := match r with
  | .bad => False
  | .ok as ρ' => ∀ F' H' vs a, Stp F H σ ρ F' H' σ ρ' → Sim M F' H' σ ρ' → Reps M F' vs as.1 → TmpOk M H F' H' σ ρ' a as.2 → Q (vs ++ [.ref a]) H'
  | .ex e ρ' => ∀ F' H' cls d, Stp F H σ ρ F' H' σ ρ' → Sim M F' H' σ ρ' → ExcOk M F' H' cls d e → W cls d σ H'
def DAT (X : Cx) (M : Mx) (W : WX) (es : List Expr) (ms : DM (List D × OC)) : Prop := ∃ t, PA X es t ∧ ∀ σ H F ρ Q, Sim M F H σ ρ → PostAT M W σ ρ F H (ms ρ) Q → t σ H Q
variable {a e : Expr} {es : List Expr} {ma m : DM RV} {ms : DM (List D × OC)}
theorem PostAT.from {r : R (List D × OC)} {Q : List V → Hp → Prop} (st : Stp F H σ ρ F1 H1 σ ρ1) (h : PostAT M W σ ρ F H r Q) : PostAT M W σ ρ1 F1 H1 r Q := by
  cases r with
  | bad => exact h
  | ok as ρ2 => exact fun F2 H2 vs a st2 sm ok tm => h F2 H2 vs a (st.trans st2) sm ok (by
      obtain ⟨o, h1, h2, h3, h4, h5⟩ := tm
      exact ⟨o, h1, h2, h3, h4, st.dom _ h5⟩)
  | ex e ρ2 => exact fun F2 H2 cls d st2 sm ok => h F2 H2 cls d (st.trans st2) sm ok
theorem dat_one (he : DE X M W e m) (hst : starEach [e] X.env = (false, eval e X.env) :: starEach [] X.env := by rfl) : DAT X M W [e] (aTmp m) := by
  obtain ⟨t, p, q⟩ := he
  refine ⟨_, pa_cons p pa_nil hst, fun σ H F ρ Q sm h => ?_⟩
  refine q σ H F ρ _ sm ?_
  unfold aTmp at h
  cases em : m ρ with
  | bad =>
    rw [em] at h
    exact h
  | ok r ρ1 =>
    rw [em] at h
    cases r with
    | ow oc =>
      intro F1 H1 v st sm1 ok
      obtain ⟨b, o, rfl, k1, k2, k3, k4, k5⟩ := ok
      exact h F1 H1 [] b st sm1 .nil ⟨o, k1, k2, k3, k4, k5⟩
    | im d => exact h.elim
    | bo i => exact h.elim
    | bt i d => exact h.elim
    | ot ds d => exact h.elim
  | ex x ρ1 =>
    rw [em] at h
    exact h
theorem dat_cons (ha : DE X M W a ma) (hs : DAT X M W es ms) (hst : starEach (a :: es) X.env = (false, eval a X.env) :: starEach es X.env := by rfl) : DAT X M W (a :: es) (aConsT ma ms) := by
  obtain ⟨te, pa, qa⟩ := ha
  obtain ⟨t, ps, qs⟩ := hs
  refine ⟨_, pa_cons pa ps hst, fun σ H F ρ Q sm h => ?_⟩
  refine qa σ H F ρ _ sm (PostD.go (PostD.step (P := fun r => PostAT M W σ ρ F H r Q) (fun z => z) (fun e ρ' z => z) h fun d ρ1 F1 H1 v st1 sm1 r1 h1 => ?_))
  refine qs σ H1 F1 ρ1 _ sm1 ?_
  have h2 := PostAT.from st1 h1
  cases e : ms ρ1 with
  | bad =>
    rw [e] at h2
    exact h2
  | ok as ρ2 =>
    rw [e] at h2
    exact fun F2 H2 vs a st2 sm2 ok2 tm => h2 F2 H2 _ a st2 sm2 (.cons (Rep.up st2.same r1) ok2) tm
  | ex x ρ2 =>
    rw [e] at h2
    exact h2
theorem getE_app {α : Type} {l : List α} {x y : α} {i : Nat} (h : (l ++ [x])[i]? = some y) : l[i]? = some y ∨ (i = l.length ∧ x = y) := by
  by_cases c : i < l.length
  · rw [List.getElem?_append_left c] at h
    exact .inl h
  · have : i = l.length := by
      by_cases c2 : i = l.length
      · exact c2
      · rw [List.getElem?_eq_none (by rw [List.length_append]; show l.length + 1 ≤ i; omega)] at h
        cases h
    subst this
    rw [List.getElem?_append_right (Nat.le_refl _), Nat.sub_self] at h
    exact .inr ⟨rfl, Option.some.inj h⟩
theorem getE_l {α : Type} {l : List α} {x y : α} {i : Nat} (h : l[i]? = some y) : (l ++ [x])[i]? = some y := by
  obtain ⟨lt, _⟩ := List.getElem?_eq_some_iff.mp h
  rw [List.getElem?_append_left lt]
  exact h
variable {v : V} {b : Addr} {oc : OC}
theorem own_l (h : Own σ ρ b) {x : V} {sv : SV} : Own (σ ++ [some x]) (ρ ++ [sv]) b := by
  obtain ⟨i, ⟨io, o, e⟩, e2⟩ := h
  exact ⟨i, ⟨io, o, getE_l e⟩, getE_l e2⟩
theorem own_r {x : Addr} {io : Bool} (len : σ.length = ρ.length) (h : Own (σ ++ [some (.ref x)]) (ρ ++ [.ow io oc]) b) : Own σ ρ b ∨ b = x := by
  obtain ⟨i, ⟨io2, o, e⟩, e2⟩ := h
  rcases getE_app e with e | ⟨rfl, e⟩
  · rcases getE_app e2 with e2 | ⟨rfl, e2⟩
    · exact .inl ⟨i, ⟨io2, o, e⟩, e2⟩
    · rw [len] at e
      obtain ⟨lt, _⟩ := List.getElem?_eq_some_iff.mp e
      omega
  · rcases getE_app e2 with e2 | ⟨_, e2⟩
    · rw [← len] at e2
      obtain ⟨lt, _⟩ := List.getElem?_eq_some_iff.mp e2
      omega
    · injection e2 with e2
      injection e2 with e2
      exact .inr e2.symm
theorem sim_more {x : Addr} (sm : Sim M F H σ ρ) (tm : TmpOk M H0 F H σ ρ x oc) : Sim M F H (σ ++ [some (.ref x)]) (ρ ++ [.ow false oc]) := by
  obtain ⟨o, h1, h2, h3, h4, h5⟩ := tm
  refine ⟨sm.sub0, sm.tabs, by rw [List.length_append, List.length_append, sm.len]; rfl, fun i d e => ?_, fun i io oc' e => ?_, fun i j y oi oj ei ej => ?_⟩
  · rcases getE_app e with e | ⟨_, e⟩
    · obtain ⟨v, e2, r⟩ := sm.im i d e
      exact ⟨v, getE_l e2, r⟩
    · cases e
  · rcases getE_app e with e | ⟨rfl, e'⟩
    · obtain ⟨y, o', e2, r⟩ := sm.ow i io oc' e
      exact ⟨y, o', getE_l e2, r⟩
    · cases e'
      refine ⟨x, o, ?_, h1, h2, h3⟩
      rw [← sm.len, List.getElem?_append_right (Nat.le_refl _), Nat.sub_self]
      rfl
  · have key : ∀ i, isOw (ρ ++ [.ow false oc]) i → (σ ++ [some (V.ref x)])[i]? = some (some (V.ref y)) → (isOw ρ i ∧ σ[i]? = some (some (V.ref y))) ∨ (i = ρ.length ∧ y = x) := fun i ⟨io, o', q1⟩ q2 => by
      rcases getE_app q1 with q1 | ⟨rfl, q1⟩
      · rcases getE_app q2 with q2 | ⟨rfl, q2⟩
        · exact .inl ⟨⟨io, o', q1⟩, q2⟩
        · rw [sm.len] at q1
          obtain ⟨lt, _⟩ := List.getElem?_eq_some_iff.mp q1
          omega
      · rcases getE_app q2 with q2 | ⟨_, q2⟩
        · rw [← sm.len] at q2
          obtain ⟨lt, _⟩ := List.getElem?_eq_some_iff.mp q2
          omega
        · injection q2 with q2
          injection q2 with q2
          exact .inr ⟨rfl, q2.symm⟩
    rcases key i oi ei with ⟨a1, a2⟩ | ⟨a1, a2⟩
    · rcases key j oj ej with ⟨b1, b2⟩ | ⟨b1, b2⟩
      · exact sm.inj i j y a1 b1 a2 b2
      · subst b2
        exact (h4 ⟨i, a1, a2⟩).elim
    · rcases key j oj ej with ⟨b1, b2⟩ | ⟨b1, b2⟩
      · subst a2
        exact (h4 ⟨j, b1, b2⟩).elim
      · rw [a1, b1]
theorem sim_less {x : V} {sv : SV} (sm : Sim M F H (σ ++ [some x]) (ρ ++ [sv])) : Sim M F H σ ρ := by
  have len : σ.length = ρ.length := by
    have z := sm.len
    rw [List.length_append, List.length_append] at z
    have : ([some x] : L2.St).length = [sv].length := rfl
    omega
  have low : ∀ {i : Nat} {y : SV} {z : Option V}, ρ[i]? = some y → (σ ++ [some x])[i]? = some z → σ[i]? = some z := fun {i y z} e e2 => by
    rcases getE_app e2 with e2 | ⟨rfl, _⟩
    · exact e2
    · rw [len] at e
      obtain ⟨lt, _⟩ := List.getElem?_eq_some_iff.mp e
      omega
  refine ⟨sm.sub0, sm.tabs, len, fun i d e => ?_, fun i io oc' e => ?_, fun i j y ⟨io1, o1, e1⟩ ⟨io2, o2, e2⟩ ei ej => sm.inj i j y ⟨io1, o1, getE_l e1⟩ ⟨io2, o2, getE_l e2⟩ (getE_l ei) (getE_l ej)⟩
  · obtain ⟨v, e2, r⟩ := sm.im i d (getE_l e)
    exact ⟨v, low e e2, r⟩
  · obtain ⟨y, o', e2, r⟩ := sm.ow i io oc' (getE_l e)
    exact ⟨y, o', low e e2, r⟩
theorem stp_less {H0 F0 : Hp} {x : Addr} {sv : SV} (st0 : Stp F0 H0 σ ρ F1 H1 σ ρ1) (sm : Sim M F1 H1 σ ρ1) (tm : TmpOk M H0 F1 H1 σ ρ1 x oc) (st : Stp F1 H1 (σ ++ [some (.ref x)]) (ρ1 ++ [.ow false oc]) F2 H2 (σ ++ [some (.ref x)]) (ρ1 ++ [sv])) : Stp F0 H0 σ ρ F2 H2 σ ρ1 := by
  obtain ⟨o, h1, h2, h3, h4, h5⟩ := tm
  have back : ∀ b, Own (σ ++ [some (V.ref x)]) (ρ1 ++ [.ow false oc]) b → Own σ ρ b ∨ Fre H0 b := fun b h => by
    rcases own_r sm.len h with h | rfl
    · exact st0.new b h
    · exact .inr h5
  refine ⟨st0.same.trans st.same, fun b o' q n nt => ?_, st0.new, fun b o' q => ?_, fun b q => st0.dom b (st.dom b q), st0.io, st0.noio⟩
  · have q1 := st0.keep b o' q n nt
    refine st.keep b o' q1 (fun z => ?_) nt
    rcases back b z with z | z
    · exact n z
    · obtain ⟨ps, e⟩ := z o' q
      exact nt ps e
  · rcases st.newF b o' q with q | q | q
    · exact st0.newF b o' q
    · exact .inr (back b q)
    · exact .inr (.inr (st0.dom b q))
theorem rv_less {H0 : Hp} {x : Addr} {sv : SV} {r : RV} (dom : ∀ b, Fre H1 b → Fre H0 b) (nb : notBo r = true) (ok : RvOk M H1 F2 H2 (σ ++ [some (.ref x)]) (ρ1 ++ [sv]) v r) : RvOk M H0 F2 H2 σ ρ1 v r := by
  cases r with
  | im d => exact ok
  | ow oc =>
    obtain ⟨a, o, e, k1, k2, k3, k4, k5⟩ := ok
    exact ⟨a, o, e, k1, k2, k3, fun z => k4 (own_l z), dom _ k5⟩
  | bo i => cases nb
  | bt i d => cases nb
  | ot ds d =>
    obtain ⟨T, a, vs, y, e, k1, k2, k3, k4, k5, k6, k7⟩ := ok
    exact ⟨T, a, vs, y, e, k1, k2, k3, k4, k5, fun z => k6 (own_l z), dom _ k7⟩
theorem reps_avs {vs : List V} {ds : List D} (r : Reps M F vs ds) : ∀ {σ : L2.St} {ρ : SE}, AvsOk M F σ ρ vs (ds.map AV.d) := fun {σ ρ} => by
  have z := AvsOk.app (M := M) (F := F) (σ := σ) (ρ := ρ) (vs := []) (as := []) .nil r
  exact z
theorem avs_io {vs : List V} {as : List AV} {i : Nat} (h : AvsOk M F σ ρ vs as) (ho : isOw ρ i) (hv : σ[i]? = some (some v)) : AvsOk M F σ ρ (vs ++ [v]) (as ++ [.io i]) := by
  induction h with
  | nil => exact .cons ⟨ho, hv⟩ .nil
  | cons h1 _ ih => exact .cons h1 ih
theorem ios_d {ds : List D} {i : Nat} : ∀ n, iosOf n (ds.map AV.d ++ [.io i]) = [(n + ds.length, i)] := by
  induction ds with
  | nil => exact fun n => rfl
  | cons d ds ih =>
    intro n
    have z := ih (n + 1)
    show iosOf (n + 1) (ds.map AV.d ++ [.io i]) = _
    rw [z, List.length_cons]
    have : n + 1 + ds.length = n + (ds.length + 1) := by omega
    rw [this]
theorem q_callT {n : Nat} {m : SE → R RV} {t : TA} (qa : ∀ σ H F ρ Q, Sim M F H σ ρ → PostAT M W σ ρ F H (ms ρ) Q → t σ H Q) : ∀ σ H F ρ Q, Sim M F H σ ρ → Post M W σ ρ F H (dCallT n m ms ρ) Q → tCallSD (spD M n m) [] (fun σ cls d H' => W cls d σ H') t σ H Q := fun σ H F ρ Q sm h => by
  refine qa σ H F ρ _ sm ?_
  unfold dCallT at h
  cases e : ms ρ with
  | bad =>
    rw [e] at h
    exact h
  | ex x ρ1 =>
    rw [e] at h
    exact h
  | ok as ρ1 =>
    rw [e] at h
    intro F1 H1 vs a st1 sm1 rs tm
    have h : Post M W σ ρ F H (callT n m as ρ1) Q := h
    unfold callT at h
    by_cases hn : as.1.length + 1 = n
    · rw [if_pos hn] at h
      have smx := sim_more sm1 tm
      have av := avs_io (v := .ref a) (i := ρ1.length) (reps_avs rs (σ := σ ++ [some (V.ref a)]) (ρ := ρ1 ++ [.ow false as.2])) ⟨false, as.2, by rw [List.getElem?_append_right (Nat.le_refl _), Nat.sub_self]; rfl⟩ (by rw [← sm1.len, List.getElem?_append_right (Nat.le_refl _), Nat.sub_self]; rfl)
      have lv : (vs ++ [V.ref a]).length = n := by rw [List.length_append, rs.length]; exact hn
      rw [List.append_nil]
      refine call_sp (m := m) (W := fun cls d _ H' => W cls d σ H') av smx lv ?_
      unfold callR
      have e0 : iosOf 0 (as.1.map AV.d ++ [AV.io ρ1.length]) = [(as.1.length, ρ1.length)] := by
        rw [ios_d, Nat.zero_add]
      rw [e0]
      have e1 : (as.1.map AV.d ++ [AV.io ρ1.length]).map (argSV (ρ1 ++ [SV.ow false as.2])) = as.1.map SV.im ++ [SV.ow true as.2] := by
        rw [List.map_append, List.map_map]
        refine congr (congrArg _ (List.map_congr_left fun d _ => rfl)) ?_
        show [(match (ρ1 ++ [SV.ow false as.2])[ρ1.length]? with
          | some (.ow _ ds) => SV.ow true ds
          | _ => SV.no)] = _
        rw [List.getElem?_append_right (Nat.le_refl _), Nat.sub_self]
        rfl
      simp only [e1]
      have bk : ∀ svs : SE, tmpIo svs[as.1.length]? = true → ∃ oc', backIo (ρ1 ++ [SV.ow false as.2]) as.1.length ρ1.length svs = some (ρ1 ++ [SV.ow false oc']) := fun svs ht => by
        unfold tmpIo at ht
        split at ht
        · rename_i oc' eo
          refine ⟨oc', ?_⟩
          unfold backIo
          rw [eo, List.getElem?_append_right (Nat.le_refl _), Nat.sub_self]
          show some ((ρ1 ++ [SV.ow false as.2]).set ρ1.length (.ow false oc')) = _
          rw [List.set_append_right _ _ (Nat.le_refl _), Nat.sub_self]
          rfl
        · cases ht
      cases em : m (as.1.map SV.im ++ [.ow true as.2]) with
      | bad =>
        rw [em] at h
        exact h.elim
      | ok r svs =>
        rw [em] at h
        have h : Post M W σ ρ F H (if notBo r = true then (if tmpIo svs[as.1.length]? = true then .ok r ρ1 else .bad) else .bad) Q := h
        by_cases nb : notBo r = true
        · rw [if_pos nb] at h
          by_cases ht : tmpIo svs[as.1.length]? = true
          · rw [if_pos ht] at h
            obtain ⟨oc', eb⟩ := bk svs ht
            show Post M _ _ _ F1 H1 (if notBo r = true then (match backIo (ρ1 ++ [SV.ow false as.2]) as.1.length ρ1.length svs with
              | some ρ2 => .ok r ρ2
              | none => .bad) else .bad) Q
            rw [if_pos nb, eb]
            exact fun F2 H2 v st2 sm2 ok2 => h F2 H2 v (stp_less st1 sm1 tm st2) (sim_less sm2) (rv_less st1.dom nb ok2)
          · rw [if_neg ht] at h
            exact h.elim
        · rw [if_neg nb] at h
          exact h.elim
      | ex x svs =>
        rw [em] at h
        have h : Post M W σ ρ F H (if tmpIo svs[as.1.length]? = true then .ex x ρ1 else .bad) Q := h
        by_cases ht : tmpIo svs[as.1.length]? = true
        · rw [if_pos ht] at h
          obtain ⟨oc', eb⟩ := bk svs ht
          show Post M _ _ _ F1 H1 (match backIo (ρ1 ++ [SV.ow false as.2]) as.1.length ρ1.length svs with
            | some ρ2 => .ex x ρ2
            | none => .bad) Q
          rw [eb]
          exact fun F2 H2 cls d st2 sm2 ok2 => h F2 H2 cls d (stp_less st1 sm1 tm st2) (sim_less sm2) ok2
        · rw [if_neg ht] at h
          exact h.elim
    · rw [if_neg hn] at h
      exact h.elim
end
end DL

/- part -/
set_option Elab.async false
set_option linter.all false
set_option maxRecDepth 100000
set_option maxHeartbeats 4000000
namespace DL
open PySem PySem.Spec PyProof.Rows L2
section
variable {P : Program} {w : World} {base : Heap} {N : List Str} {sc : Scope} {j : Nat}
variable {M : Mx} {W : WX} {X : Cx} {a : Expr} {es : List Expr} {x : Str} {p pos : Pos} {ms : DM (List D × OC)}
theorem de_callT {k n : Nat} {mm : SE → R RV} (C : CxD P w base M N sc j X W) (Ca : Cal P w base M x k n mm) (g : GlOk sc x) (hk : k ≤ j) (ha : DAT X M W (a :: es) ms)
    (he : starEach (a :: es) X.env = (false, eval a X.env) :: starEach es X.env := by rfl) (hpl : (backTo pos (starEach es X.env)).any (·.1) = false := by rfl) :
    DE X M W (.Call (.Name x p) (a :: es) [] pos) (dCallT n mm ms) := by
  obtain ⟨f, fd, ps, g', kp, b, ok⟩ := Ca
  have hP := C.hP
  have hw := C.hw
  have hB := C.hB
  subst hP hw hB
  rw [C.hK, C.hM] at ok
  rw [C.hK] at kp b
  rw [C.hM] at g'
  obtain ⟨t, pa, qa⟩ := ha
  exact ⟨_, pe_callSD ok (C.hr.mono hk) (C.glo g) g' kp b .nil (E := fun σ cls d H' => W cls d σ H') (fun σ => passAt C.tk σ) pa g.nd he hpl, q_callT qa⟩
end
def retT (r : R RV) (k : Nat) (ρ : SE) : R RV := match r with
  | .bad => .bad
  | .ok r svs => if notBo r = true then (if tmpIo svs[k]? = true then .ok r ρ else .bad) else .bad
  | .ex e svs => if tmpIo svs[k]? = true then .ex e ρ else .bad
def aTmpK (r : RV) (ρ1 : SE) : R (List D × OC) := match r with
  | .ow oc => .ok ([], oc) ρ1
  | _ => .bad
section
variable {m : SE → R RV} {ρ ρ1 : SE} {r : R RV} {Q : RV → SE → Prop} {E : Exc → SE → Prop} {d e f g : D} {i k n : Nat} {ma mt : DM RV} {ms : DM (List D × OC)} {oc : OC} {io : Bool}
@[simp ↓, simp] theorem u_dCallT {c : Cont RV} : Wp (dCallT n m ms ρ) = Wp ((ms ρ).bind fun as ρ1 => callT n m as ρ1 : R RV) := rfl
@[simp ↓, simp] theorem u_aTmp {c : Cont (List D × OC)} : Wp (aTmp ma ρ) = Wp ((ma ρ).bind fun r ρ1 => aTmpK r ρ1 : R (List D × OC)) := rfl
@[simp] theorem aTmpK_ow : aTmpK (.ow oc) ρ = .ok ([], oc) ρ := rfl
@[simp ↓, simp] theorem u_aConsT {c : Cont (List D × OC)} : Wp (aConsT ma ms ρ) = Wp ((dFz ma ρ).bind fun d ρ1 => (ms ρ1).bind fun as ρ2 => .ok (d :: as.1, as.2) ρ2 : R (List D × OC)) := rfl
@[simp] theorem callT_4 : callT 4 m ([d, e, f], oc) ρ = retT (m [.im d, .im e, .im f, .ow true oc]) 3 ρ := if_pos rfl
@[simp] theorem callT_3 : callT 3 m ([d, e], oc) ρ = retT (m [.im d, .im e, .ow true oc]) 2 ρ := if_pos rfl
@[simp] theorem callT_2 : callT 2 m ([d], oc) ρ = retT (m [.im d, .ow true oc]) 1 ρ := if_pos rfl
@[simp] theorem tmpIo_ow : tmpIo (some (.ow true oc)) = true := rfl
@[simp ↓, simp] theorem wp_retT : WP (retT r k ρ) Q E = WP r (fun x svs => notBo x = true ∧ tmpIo svs[k]? = true ∧ Q x ρ) (fun e svs => tmpIo svs[k]? = true ∧ E e ρ) := by
  cases r with
  | bad => exact wp_bad.trans wp_bad.symm
  | ok x svs =>
    refine Eq.trans ?_ wp_ok.symm
    show WP (if notBo x = true then (if tmpIo svs[k]? = true then .ok x ρ else .bad) else .bad) Q E = _
    by_cases nb : notBo x = true
    · rw [if_pos nb]
      by_cases ht : tmpIo svs[k]? = true
      · rw [if_pos ht]
        exact wp_ok.trans (propext ⟨fun h => ⟨nb, ht, h⟩, fun h => h.2.2⟩)
      · rw [if_neg ht]
        exact wp_bad.trans (propext ⟨fun h => h.elim, fun h => (ht h.2.1).elim⟩)
    · rw [if_neg nb]
      exact wp_bad.trans (propext ⟨fun h => h.elim, fun h => (nb h.1).elim⟩)
  | ex e svs =>
    refine Eq.trans ?_ wp_ex.symm
    show WP (if tmpIo svs[k]? = true then .ex e ρ else .bad) Q E = _
    by_cases ht : tmpIo svs[k]? = true
    · rw [if_pos ht]
      exact wp_ex.trans (propext ⟨fun h => ⟨ht, h⟩, fun h => h.2⟩)
    · rw [if_neg ht]
      exact wp_bad.trans (propext ⟨fun h => h.elim, fun h => (ht h.1).elim⟩)
@[simp] theorem callR_dio3 : callR m [.d d, .d e, .d f, .io i] ρ = retIo (m [.im d, .im e, .im f, ioSV ρ[i]?]) 3 i ρ := by
  rw [← argSV_eq]
  exact callR_io rfl
@[simp] theorem callR_dio2 : callR m [.d d, .d e, .io i] ρ = retIo (m [.im d, .im e, ioSV ρ[i]?]) 2 i ρ := by
  rw [← argSV_eq]
  exact callR_io rfl
end
end DL

/- part -/
set_option Elab.async false
set_option linter.all false
set_option maxRecDepth 100000
set_option maxHeartbeats 4000000
namespace DL
open PySem PySem.Spec PyProof.Rows L2
def callFK (n : Nat) (tab : List (Str × (SE → R RV))) (ms : DM (List AV)) (r : RV) (ρ1 : SE) : R RV := match r with
  | .im (.fn z) => match tab.lookup z with
    | some m => dCall n [] m ms ρ1
    | none => .bad
  | _ => .bad
def dCallF (mf : DM RV) (n : Nat) (tab : List (Str × (SE → R RV))) (ms : DM (List AV)) : DM RV := fun ρ => match mf ρ with
  | .ok r ρ1 => callFK n tab ms r ρ1
  | _ => .bad
section
variable {M : Mx} {W : WX} {X : Cx} {e a fe : Expr} {es : List Expr} {ms : DM (List AV)} {mf : DM RV} {x y : Str} {p pos : Pos} {i k n : Nat}
theorem pe_exprCall {CX : CXT} {f : Addr} {fd : FuncData} {ps : List Str} {sp : Sp} {dvs : List V} {ds : List Value} {E : L2.St → XK} {t : TA} {tf : TE} (G : FnOk X.prog X.w X.K X.mg X.base CX k f fd ps sp) (room : Room k X.A) (keep : PySem.W.keepIn X.K (.ref f) = true) (bnd : Binds X.K fd ps ds) (dfl : Vals dvs ds) (out : ∀ σ, PassesAt CX X σ (E σ)) (fn : PE X fe tf) (args : PA X (a :: es) t)
    (hev : eval (.Call fe (a :: es) [] pos) X.env = (do callWith pos (← eval fe X.env) [] (backTo pos (starEach (a :: es) X.env)) (backToKw pos (keywordEach [] X.env))) := by rfl)
    (st : starEach (a :: es) X.env = (false, eval a X.env) :: starEach es X.env := by rfl) (pl : (backTo pos (starEach es X.env)).any (·.1) = false := by rfl) :
    PE X (.Call fe (a :: es) [] pos) (fun σ H Q => tf σ H fun v H1 => v = .ref f ∧ tCallSD sp dvs E t σ H1 Q) := by
  constructor
  intro pn s0 σ H Q inv want
  rw [hev]
  refine wpAny_bind (thn (fn.run pn s0 σ H _ inv want) fun g s1 ⟨g', G1, inv1, rg, eg, want1⟩ => ?_)
  subst eg
  cases rg
  have go := args.run pos pn s1 σ G1 _ inv1 want1
  refine PySem.W.callWith_K (h₀ := X.base) inv.ok.mod.kin keep ?_ st pl
  exact thn go fun vals s2 ⟨ws, G2, inv2, rw2, q2⟩ => ⟨inv2.kIn, run_fnSD G room bnd dfl (out σ) inv2 rw2 q2⟩
theorem de_callF0 : DE X M W e (dCallF mf n [] ms) := ⟨_, pe_none, fun σ H F ρ Q sm h => by
  unfold dCallF at h
  split at h
  · unfold callFK at h
    split at h
    · exact h
    · exact h
  · exact h⟩
end
section
variable {P : Program} {w : World} {base : Heap} {N : List Str} {sc : Scope} {j : Nat} {M : Mx} {W : WX} {X : Cx} {a fe : Expr} {es : List Expr} {ms : DM (List AV)} {mf : DM RV} {x y : Str} {p pos : Pos}
theorem de_callFc {k n : Nat} {mm : SE → R RV} {tab : List (Str × (SE → R RV))} (C : CxD P w base M N sc j X W) (Ca : Cal P w base M y k n mm) (hk : k ≤ j) (hf : DE X M W fe mf) (ha : DA X M W (a :: es) ms) (rest : DE X M W (.Call fe (a :: es) [] pos) (dCallF mf n tab ms))
    (hev : eval (.Call fe (a :: es) [] pos) X.env = (do callWith pos (← eval fe X.env) [] (backTo pos (starEach (a :: es) X.env)) (backToKw pos (keywordEach [] X.env))) := by rfl)
    (he : starEach (a :: es) X.env = (false, eval a X.env) :: starEach es X.env := by rfl) (hpl : (backTo pos (starEach es X.env)).any (·.1) = false := by rfl) :
    DE X M W (.Call fe (a :: es) [] pos) (dCallF mf n ((y, mm) :: tab) ms) := by
  obtain ⟨f, fd, ps, g', kp, b, ok⟩ := Ca
  obtain ⟨tf, pf, qf⟩ := hf
  obtain ⟨t, pa, qa⟩ := ha
  obtain ⟨t2, p2, q2⟩ := rest
  have hP := C.hP
  have hw := C.hw
  have hB := C.hB
  subst hP hw hB
  rw [C.hK, C.hM] at ok
  rw [C.hK] at kp b
  refine ⟨_, pe_two (pe_exprCall ok (C.hr.mono hk) kp b .nil (E := fun σ cls d H' => W cls d σ H') (fun σ => passAt C.tk σ) pf pa hev he hpl) p2, fun σ H F ρ Q sm hh => ?_⟩
  unfold dCallF at hh
  split at hh
  · rename_i r ρ1 e1
    unfold callFK at hh
    split at hh
    · rename_i z
      by_cases hz : z = y
      · subst hz
        rw [List.lookup_cons, beq_self_eq_true] at hh
        refine .inl (qf σ H F ρ _ sm ?_)
        rw [e1]
        intro F1 H1 v st1 sm1 rv
        have rv : Rep M F1 v (.fn z) := rv
        cases rv with
        | fn hm =>
          rw [g'] at hm
          cases hm
          exact ⟨rfl, q_call qa (fun _ => .nil) σ H1 F1 ρ1 Q sm1 (Post.from st1 hh)⟩
      · rw [List.lookup_cons, beq_eq_false_iff_ne.mpr hz] at hh
        refine .inr (q2 σ H F ρ Q sm ?_)
        unfold dCallF
        rw [e1]
        exact hh
    · exact hh.elim
  · exact hh.elim
end
section
variable {mf : DM RV} {ρ ρ1 : SE} {n : Nat} {tab : List (Str × (SE → R RV))} {ms : DM (List AV)} {Q : RV → SE → Prop} {E : Exc → SE → Prop} {z : Str} {m : SE → R RV}
theorem wp_callF (h : WP (mf ρ) (fun r ρ1 => WP (callFK n tab ms r ρ1) Q E) noX) : WP (dCallF mf n tab ms ρ) Q E := by
  unfold dCallF
  obtain ⟨r, ρ1, e, q⟩ := Wp.some h
  rw [e]
  exact q
theorem callFK_at (h : tab.lookup z = some m) : callFK n tab ms (.im (.fn z)) ρ = dCall n [] m ms ρ := by
  show (match tab.lookup z with
    | some m => dCall n [] m ms ρ
    | none => .bad) = _
  rw [h]
end
end DL

/- part -/
set_option Elab.async false
set_option linter.all false
set_option maxRecDepth 100000
set_option maxHeartbeats 4000000
namespace DL
open PySem PySem.Spec PyProof.Rows L2
section
variable {M : Mx} {X : Cx}
theorem duo_prs {pins : List (Addr × Obj)} {σ : L2.St} {H : Hp} {s : Shared} (I : Inv X pins σ H s) : ∀ {ps : List Addr} {trs : List (V × V)} {ks : List D}, Paired (fun p kv => SqT X.K H p [kv.1, kv.2]) ps trs → (∀ z ∈ ks, leafD z = true) → trs.map (·.1) = ks.map lvV →
    ∃ ys : List Value, ys.length = ks.length ∧ Vals (trs.map (·.2)) ys ∧ (duo ks ys).length = ps.length ∧ ∀ (j : Nat) (q : Key × Value), (duo ks ys)[j]? = some q → ∃ (b : Addr) (u : Value), ps[j]? = some b ∧ IsTup s.heap b #[u, q.2] ∧ keyIs q.1 u = true
  | _, _, [], .nil, _, _ => ⟨[], rfl, .nil, rfl, fun j q e => by simp [duo] at e⟩
  | _, _, _ :: _, .nil, _, h => by simp at h
  | _, _, [], .cons _ _, _, h => by simp at h
  | _, _, k :: ks, .cons (a := p) (b := kv) h t, lf, hk => by
    simp only [List.map_cons, List.cons.injEq] at hk
    obtain ⟨h1, h2⟩ := hk
    obtain ⟨ys, l, r, hl, hp⟩ := duo_prs I t (fun z hz => lf z (List.mem_cons_of_mem _ hz)) h2
    obtain ⟨its, rv, ht, _⟩ := I.tuple h
    obtain ⟨u, y, ei, ru, ry⟩ := vals2 rv
    subst ei
    have lk0 := lf k List.mem_cons_self
    refine ⟨y :: ys, by rw [List.length_cons, List.length_cons, l], .cons ry r, by show (duo ks ys).length + 1 = _; rw [List.length_cons, hl], fun j q e => ?_⟩
    cases j with
    | zero =>
      have e' : (lk k, y) = q := Option.some.inj e
      subst e'
      refine ⟨p, u, rfl, ht, kV_is (P := X.prog) (w := X.w) ?_⟩
      rw [leaf_kV lk0, ← h1]
      exact ru
    | succ j =>
      obtain ⟨b, u', e1, e2, e3⟩ := hp j q (by
        have e : ((lk k, y) :: duo ks ys)[j + 1]? = some q := e
        simpa using e)
      exact ⟨b, u', by simpa using e1, e2, e3⟩
def rDictX (M : Mx) (K : PySem.W.Frag) : List V → Hp → VK → Prop := fun xs H Q => ∃ (a : Addr) (ps : List Addr) (trs : List (V × V)) (ks vs : List D), xs = [.ref a] ∧ SqL K H a (ps.map V.ref) ∧ Paired (fun p kv => SqT K H p [kv.1, kv.2]) ps trs ∧ (∀ z ∈ ks, leafD z = true) ∧ trs.map (·.1) = ks.map lvV ∧ (ks.map nk).Nodup ∧ ks.length ≤ 1000000 ∧
  ∀ p o', H p = none → Q (.ref p) (upd H p (XtO M .dct (p, o') (trs.map (·.1)) (trs.map (·.2)) ks vs))
theorem call_dictX (hW : M.w = X.w) (hcalm : X.calm = true) : CallR X (.type "dict") (rDictX M X.K) := by
  intro pins s σ H xs us Q I r q
  obtain ⟨a, ps, trs, ks, vs, ex, hq, hp, lf, ek, nd, few, q⟩ := q
  subst ex
  obtain ⟨u, eu, rx⟩ := vals1 r
  subst eu
  cases rx
  obtain ⟨its, rv, pl, hz⟩ := I.list hq
  have ei := refs_at rv
  subst ei
  rw [List.length_map] at hz
  obtain ⟨ys, ly, vv, hl, hpr⟩ := duo_prs I hp lf ek
  obtain ⟨o, n, ho, hc, hd, hdat⟩ := pl
  have nd2 := (leaf_nodup lf).mp nd
  refine call_dict_pairs (prs := duo ks ys) (I.ok.hd hcalm) ho hc hd hdat (by simp [hl]) (by rw [hl]; exact hz) (fun j q' e => ?_) fun h' tk hd' k => ?_
  · obtain ⟨b, u, e1, e2, e3⟩ := hpr j q' e
    exact ⟨b, u, by simp [e1], e2, e3⟩
  · have hm : (s.heap.objs.size == sysModules) = false := beq_eq_false_iff_ne.mpr (Nat.ne_of_gt I.big)
    rw [merged_new (acc := []) (by rw [List.nil_append, duo_keys ly]; exact nd2), List.nil_append] at hd'
    obtain ⟨o2, es, ep, ho2, hc2, hd2, ko, pr, _⟩ := hd'
    obtain ⟨xs, g3, g4⟩ := duo_back lf ly pr fun e he => ko e (by simpa using he)
    refine ⟨.ref s.heap.objs.size, _, I.laid (t' := tk) k (Nat.le_refl _) (dct_new (M := M) (us := trs.map (·.1)) (ws := trs.map (·.2)) (ks := ks) (vs := vs) ho2 ?_), rfl, q _ o2 (I.hok.fresh (Nat.le_refl _))⟩
    refine ⟨hm, ⟨nd, fun z hz => leaf_kOk (lf z hz), .inl lf⟩, by rw [ek, List.length_map], by rw [vv.length, ly], few, xs, ys, ep, by rw [ek]; exact g3, vv, hc2, ?_⟩
    rw [hd2, hW, ← g4]
def splitP : List D → Option (List D × List D)
  | [] => some ([], [])
  | .tup [k, v] :: r => (splitP r).map fun p => (k :: p.1, v :: p.2)
  | _ => none
def gDictP : List D → Option RV
  | [.lst ds] => match splitP ds with
    | some (ks, vs) => if (ks.all leafD && nodK ks && decide (ks.length ≤ 1000000)) = true then some (.ow (.xt .dct ks vs)) else none
    | none => none
  | _ => none
theorem split_paired {F H : Hp} (sub : SubF F H) : ∀ {ds : List D} {ws : List V} {ks vs : List D}, Reps M F ws ds → splitP ds = some (ks, vs) → ∃ (ps : List Addr) (trs : List (V × V)), ws = ps.map V.ref ∧ Paired (fun p kv => SqT M.K H p [kv.1, kv.2]) ps trs ∧ Reps M F (trs.map (·.1)) ks ∧ Reps M F (trs.map (·.2)) vs
  | [], _, ks, vs, .nil, e => by
    cases e
    exact ⟨[], [], rfl, .nil, .nil, .nil⟩
  | d :: ds, _, ks, vs, .cons (v := v) r rs, e => by
    unfold splitP at e
    split at e
    · rename_i z1
      cases z1
    · rename_i k y r' z1
      cases z1
      obtain ⟨⟨ks', vs'⟩, e1, e2⟩ := Option.map_eq_some_iff.mp e
      cases e2
      obtain ⟨ps, trs, q1, q2, q3, q4⟩ := split_paired sub rs e1
      cases r with
      | tup h1 h2 =>
        rename_i a ws'
        cases h2 with
        | cons k1 k2 =>
          cases k2 with
          | cons k3 k4 =>
            cases k4
            exact ⟨a :: ps, (_, _) :: trs, by rw [q1]; rfl, .cons (sub.sqT h1) q2, .cons k1 q3, .cons k3 q4⟩
    · cases e
theorem leaf_lv {F : Hp} : ∀ {ks : List D} {us : List V}, (∀ z ∈ ks, leafD z = true) → Reps M F us ks → us = ks.map lvV
  | [], _, _, .nil => rfl
  | k :: ks, _, lf, .cons r rs => by
    rw [List.map_cons, ← leaf_lv (fun z hz => lf z (List.mem_cons_of_mem _ hz)) rs]
    have l := lf k List.mem_cons_self
    cases r <;> first
      | rfl
      | (unfold leafD at l; cases l)
theorem cb_dictP : CbOk M (rDictX M M.K) gDictP := by
  intro F H vs ds rv Q sub hv hg k
  unfold gDictP at hg
  split at hg
  · rename_i ds
    split at hg
    · rename_i ks vs e
      obtain ⟨hc, e2⟩ := some_ite hg
      cases e2
      obtain ⟨hc, c3⟩ := Bool.and_eq_true_iff.mp hc
      obtain ⟨c1, c2⟩ := Bool.and_eq_true_iff.mp hc
      obtain ⟨v, rfl, a, ws, e3, h1, r⟩ := vws1 hv
      subst e3
      obtain ⟨ps, trs, q1, q2, q3, q4⟩ := split_paired sub r e
      subst q1
      have lf : ∀ z ∈ ks, leafD z = true := fun z hz => List.all_eq_true.mp c1 z hz
      refine ⟨a, ps, trs, ks, vs, rfl, .inl (.inl h1), q2, lf, leaf_lv lf q3, nodK_of c2, of_decide_eq_true c3, fun p o' hp => ?_⟩
      have al := Alc.new (o := XtO M .dct (p, o') (trs.map (·.1)) (trs.map (·.2)) ks vs) sub hp
      exact k _ _ _ al ⟨p, _, rfl, upd_same, sub.free hp, .xt q3 q4, hp⟩
    · cases hg
  · cases hg
variable {P : Program} {w : World} {base : Heap} {N : List Str} {sc : Scope} {j : Nat} {W : WX} {a : Expr} {mv : DM (List D)} {p pos : Pos}
theorem de_dictP (C : CxD P w base M N sc j X W) (hW : M.w = w) (h : GlOk sc "dict") (hm : M.mg "dict" = none) (ha : DV X M W [a] mv) (he : starEach [a] X.env = (false, eval a X.env) :: starEach [] X.env := by rfl) : DE X M W (.Call (.Name "dict" p) [a] [] pos) (dCb gDictP mv) := de_ctyF C (call_dictX (hW.trans C.hw.symm) C.cm) (C.hK ▸ cb_dictP) (by decide +kernel) h hm ha he
@[simp] theorem splitP_map {α : Type} {f g : α → D} : ∀ l : List α, splitP (l.map fun x => .tup [f x, g x]) = some (l.map f, l.map g)
  | [] => rfl
  | x :: l => by
    show (splitP (l.map fun x => .tup [f x, g x])).map (fun p => (f x :: p.1, g x :: p.2)) = _
    rw [splitP_map l]
    rfl
end
end DL

/- part -/
set_option Elab.async false
set_option linter.all false
set_option maxRecDepth 100000
set_option maxHeartbeats 4000000
namespace DL
open PySem PySem.Spec PyProof.Rows L2
theorem emp_rep {M : Mx} {D0 : Addr} {ti : Array Value} {tn : Nat} {ts : Array (Option Value)} (l : M.K.lookup D0 = some ⟨.type "tuple", none, .seq ti tn, ts⟩) (v : Vals [] ti.toList) (F : Hp) : Rep M F (.ref D0) (.tup []) := by
  refine .tup (.inr ⟨_, ti, tn, l, rfl, rfl, ?_, v⟩) .nil
  have e := v.length
  have e : 0 = ti.toList.length := e
  rw [Array.length_toList] at e
  rw [← e]
  exact Nat.zero_le _
end DL

/- part -/
set_option Elab.async false
set_option linter.all false
set_option maxRecDepth 100000
set_option maxHeartbeats 4000000
namespace Kx
noncomputable section
open PySem PySem.Spec PyProof.Rows L2 DL
def topS (i : Nat) : Stmt := PySem.Challenge.pw_earlywrite_k18_values_of_expressions.main.body.getD i (.Pass ⟨0, 0, 0, 0⟩)
abbrev c_ZERO : D := .tup [.int 0, .int 1]
def okE (c : Str) : Bool := (decide (c = "OutOfRange") || false)
structure Tx (M : Mx) (w : World) where
  hw : M.w = w
  z_len : M.mg "len" = none
  z_list : M.mg "list" = none
  z_range : M.mg "range" = none
  z_abs : M.mg "abs" = none
  z_isinstance : M.mg "isinstance" = none
  z_tuple : M.mg "tuple" = none
  z_all : M.mg "all" = none
  z_zip : M.mg "zip" = none
  z_bool : M.mg "bool" = none
  z_int : M.mg "int" = none
  z_str : M.mg "str" = none
  z_dict : M.mg "dict" = none
  k_ZERO : KCon M "ZERO" c_ZERO
  x_OutOfRange : ExcAt M "OutOfRange" ["self"] fun _ => [("tag", .str "OutOfRange")]
  e_tup : ∀ F : Hp, Rep M F (.ref (M.ca "()")) (.tup [])
abbrev s__law_begin : Stmt := topS 22
abbrev n__law_begin : List Str := ["_law_script", "_law_seed", "_law_cell"]
theorem sc__law_begin : FnScope n__law_begin ["_law_script"] (defScope s__law_begin) := ⟨rfl, rfl, rfl, by decide +kernel, rfl, by decide +kernel, by decide +kernel⟩
structure V__law_begin : Prop where
  _law_script : NameOk (defScope s__law_begin) "_law_script"
  _law_seed : NameOk (defScope s__law_begin) "_law_seed"
  _law_cell : NameOk (defScope s__law_begin) "_law_cell"
theorem v__law_begin : V__law_begin := ⟨⟨by unfold Vis; decide +kernel, by decide +kernel, by decide +kernel⟩, ⟨by unfold Vis; decide +kernel, by decide +kernel, by decide +kernel⟩, ⟨by unfold Vis; decide +kernel, by decide +kernel, by decide +kernel⟩⟩
structure L__law_begin : Prop where
  _law_seed : L2.Loc (defScope s__law_begin) "_law_seed"
  _law_cell : L2.Loc (defScope s__law_begin) "_law_cell"
theorem l__law_begin : L__law_begin := ⟨by unfold L2.Loc; decide +kernel, by unfold L2.Loc; decide +kernel⟩
structure G__law_begin : Prop where
  len : GlOk (defScope s__law_begin) "len"
  list : GlOk (defScope s__law_begin) "list"
theorem g__law_begin : G__law_begin := ⟨⟨by decide +kernel, by decide +kernel, by decide +kernel⟩, ⟨by decide +kernel, by decide +kernel, by decide +kernel⟩⟩
def b__law_begin : DM Fl := sSeq (sSet 1 (dOp2 addD (dC (.int 9491)) (dCb gLen (vCons (dSl (dVar 0) (oNone) (oSome (dC (.int 63)))) (vNil))))) (sSeq (sFor (iSeq (dSl (dVar 0) (oNone) (oSome (dC (.int 63))))) (tgName 2) (sSet 1 (dOp2 modD (dOp2 addD (dOp2 addD (dOp2 mulD (dVar 1) (dC (.int 40009))) (dOp2 modD (dVar 2) (dC (.int 2147483549)))) (dC (.int 31))) (dC (.int 2147483549))))) (sRet (dLst (aCons (dCb gList (vCons (dSl (dVar 0) (oNone) (oSome (dC (.int 63)))) (vNil))) (aCons (dC (.int 0)) (aCons (dC (.int 0)) (aCons (dVar 1) (aNil))))))))
def m__law_begin : SE → R RV := mFn n__law_begin.length b__law_begin
theorem d__law_begin {P : Program} {w : World} {base : Heap} {M : Mx} (T : Tx M w)  {X : Cx} {W : DL.WX} (C : CxF P w base M n__law_begin (defScope s__law_begin) 0 X W) : DSs X M W (defBody s__law_begin) b__law_begin :=
  (dss_cons (ds_v C.toCxD 1 (C.st l__law_begin._law_seed) (de_add de_int (de_lenF C.toCxD g__law_begin.len T.z_len (dv_cons (de_sl (de_v C.toCxD 0 v__law_begin._law_script) do_none (do_some de_int) C.toCxD.hK) dv_nil)) C.toCxD.hK)) (dss_cons (ds_for C.ps C.cm (di_seq (de_sl (de_v C.toCxD 0 v__law_begin._law_script) do_none (do_some de_int) C.toCxD.hK) C.toCxD.hK) (dg_v C.toCxD 2 (C.st l__law_begin._law_cell)) (dss_one (ds_v C.toCxD 1 (C.st l__law_begin._law_seed) (de_mod (de_add (de_add (de_mul (de_v C.toCxD 1 v__law_begin._law_seed) de_int) (de_mod (de_v C.toCxD 2 v__law_begin._law_cell) de_int) C.toCxD.hK) de_int C.toCxD.hK) de_int)))) (dss_one (ds_ret (de_lst (da_cons (de_listF C.toCxD g__law_begin.list T.z_list (dv_cons (de_sl (de_v C.toCxD 0 v__law_begin._law_script) do_none (do_some de_int) C.toCxD.hK) dv_nil)) (da_cons de_int (da_cons de_int (da_cons (de_v C.toCxD 1 v__law_begin._law_seed) da_nil)))))))))
theorem ok__law_begin {P : Program} {w : World} {base : Heap} {M : Mx} (T : Tx M w) (Dx : DefAt M "_law_begin" s__law_begin ["_law_script"])  : FnOk P w M.K M.mg base (L2.CX P w) 1 Dx.f Dx.fd ["_law_script"] (spD M 1 m__law_begin) := by
  have h : ∀ (cdv : Value) (A : Around) (outer : List Env) (s : Shared) (H : Hp) (E : XK), Room 0 (A.deeper (envOfC "_law_begin" (defScope s__law_begin) s.heap.objs.size Dx.f cdv)) → DSs (cxOf (L2.CX P w) P w M.K M.mg base n__law_begin "_law_begin" (defScope s__law_begin) Dx.f cdv A outer s H E) M (fun cls d _ H' => E cls d H') (defBody s__law_begin) b__law_begin := fun cdv A outer s H E hr => d__law_begin T  (cxF_of sc__law_begin hr)
  exact fn_D Dx.fu sc__law_begin h
def cal__law_begin {P : Program} {w : World} {base : Heap} {M : Mx} (T : Tx M w) (Dx : DefAt M "_law_begin" s__law_begin ["_law_script"])  : Cal P w base M "_law_begin" 1 1 m__law_begin := Dx.cal (ok__law_begin (P := P) (base := base) T Dx )
abbrev s__law_draw : Stmt := topS 23
abbrev n__law_draw : List Str := ["_law_rng", "_law_many", "_law_cell", "_law_got", "_law_seed"]
theorem sc__law_draw : FnScope n__law_draw ["_law_rng", "_law_many"] (defScope s__law_draw) := ⟨rfl, rfl, rfl, by decide +kernel, rfl, by decide +kernel, by decide +kernel⟩
structure V__law_draw : Prop where
  _law_rng : NameOk (defScope s__law_draw) "_law_rng"
  _law_cell : NameOk (defScope s__law_draw) "_law_cell"
  _law_many : NameOk (defScope s__law_draw) "_law_many"
  _law_got : NameOk (defScope s__law_draw) "_law_got"
  _law_seed : NameOk (defScope s__law_draw) "_law_seed"
theorem v__law_draw : V__law_draw := ⟨⟨by unfold Vis; decide +kernel, by decide +kernel, by decide +kernel⟩, ⟨by unfold Vis; decide +kernel, by decide +kernel, by decide +kernel⟩, ⟨by unfold Vis; decide +kernel, by decide +kernel, by decide +kernel⟩, ⟨by unfold Vis; decide +kernel, by decide +kernel, by decide +kernel⟩, ⟨by unfold Vis; decide +kernel, by decide +kernel, by decide +kernel⟩⟩
structure L__law_draw : Prop where
  _law_cell : L2.Loc (defScope s__law_draw) "_law_cell"
  _law_got : L2.Loc (defScope s__law_draw) "_law_got"
  _law_seed : L2.Loc (defScope s__law_draw) "_law_seed"
theorem l__law_draw : L__law_draw := ⟨by unfold L2.Loc; decide +kernel, by unfold L2.Loc; decide +kernel, by unfold L2.Loc; decide +kernel⟩
structure G__law_draw : Prop where
  len : GlOk (defScope s__law_draw) "len"
theorem g__law_draw : G__law_draw := ⟨⟨by decide +kernel, by decide +kernel, by decide +kernel⟩⟩
def b__law_draw : DM Fl := sSeq (sIf (dAndT (fun ρ => (dOp2 eqD (dOp2 ixD (dVar 0) (dC (.int 2))) (dC (.int 0)) ρ).bind asB) (fun ρ => (dOp2 ltD (dOp2 ixD (dVar 0) (dC (.int 1))) (dCb gLen (vCons (dOp2 ixD (dVar 0) (dC (.int 0))) (vNil))) ρ).bind asB)) (sSeq (sSet 2 (dOp2 ixD (dOp2 ixD (dVar 0) (dC (.int 0))) (dOp2 ixD (dVar 0) (dC (.int 1))))) (sSeq (sSub 0 (dC (.int 1)) (dOp2 addD (dOp2 ixD (dVar 0) (dC (.int 1))) (dC (.int 1)))) (sIf (fun ρ => (dOp2 geD (dVar 2) (dOp2 powD (dC (.int 10)) (dC (.int 18))) ρ).bind asB) (sSub 0 (dC (.int 2)) (dVar 2)) (sSub 0 (dC (.int 3)) (dOp2 modD (dOp2 addD (dOp2 addD (dOp2 mulD (dOp2 ixD (dVar 0) (dC (.int 3))) (dC (.int 44111))) (dOp2 mulD (dOp2 modD (dVar 2) (dC (.int 2147483549))) (dC (.int 70001)))) (dC (.int 13))) (dC (.int 2147483549))))))) (sPass)) (sSeq (sIf (fun ρ => (dOp2 gtD (dOp2 ixD (dVar 0) (dC (.int 2))) (dC (.int 0)) ρ).bind asB) (sSeq (sSet 3 (dOp2 modD (dOp2 ixD (dVar 0) (dC (.int 2))) (dVar 1))) (sSeq (sSub 0 (dC (.int 2)) (dOp2 fdivD (dOp2 ixD (dVar 0) (dC (.int 2))) (dVar 1))) (sRet (dVar 3)))) (sPass)) (sSeq (sSet 4 (dOp2 ixD (dVar 0) (dC (.int 3)))) (sSeq (sSub 0 (dC (.int 3)) (dOp2 modD (dOp2 addD (dOp2 addD (dOp2 mulD (dVar 4) (dOp2 addD (dOp2 modD (dVar 4) (dC (.int 65479))) (dC (.int 11)))) (dOp2 mulD (dVar 4) (dC (.int 40699)))) (dC (.int 70067))) (dC (.int 2147483549)))) (sRet (dOp2 modD (dOp2 addD (dOp2 fdivD (dOp2 ixD (dVar 0) (dC (.int 3))) (dC (.int 67))) (dOp2 mulD (dOp2 modD (dOp2 ixD (dVar 0) (dC (.int 3))) (dC (.int 7919))) (dC (.int 211)))) (dVar 1))))))
def m__law_draw : SE → R RV := mFn n__law_draw.length b__law_draw
theorem d__law_draw {P : Program} {w : World} {base : Heap} {M : Mx} (T : Tx M w)  {X : Cx} {W : DL.WX} (C : CxF P w base M n__law_draw (defScope s__law_draw) 0 X W) : DSs X M W (defBody s__law_draw) b__law_draw :=
  (dss_cons (ds_if (dt_w (dw_and (dt_eq (de_ix (de_v C.toCxD 0 v__law_draw._law_rng) de_int (fun _ _ => rfl) C.toCxD.hK) de_int C.toCxD.u64 C.toCxD.hK) (dw_and1 (dt_lt (de_ix (de_v C.toCxD 0 v__law_draw._law_rng) de_int (fun _ _ => rfl) C.toCxD.hK) (de_lenF C.toCxD g__law_draw.len T.z_len (dv_cons (de_ix (de_v C.toCxD 0 v__law_draw._law_rng) de_int (fun _ _ => rfl) C.toCxD.hK) dv_nil)))))) (dss_cons (ds_v C.toCxD 2 (C.st l__law_draw._law_cell) (de_ix (de_ix (de_v C.toCxD 0 v__law_draw._law_rng) de_int (fun _ _ => rfl) C.toCxD.hK) (de_ix (de_v C.toCxD 0 v__law_draw._law_rng) de_int (fun _ _ => rfl) C.toCxD.hK) (fun _ _ => rfl) C.toCxD.hK)) (dss_cons (ds_ixv C.toCxD 0 v__law_draw._law_rng (de_add (de_ix (de_v C.toCxD 0 v__law_draw._law_rng) de_int (fun _ _ => rfl) C.toCxD.hK) de_int C.toCxD.hK) de_int) (dss_one (ds_if (dt_ge (de_v C.toCxD 2 v__law_draw._law_cell) (de_pow de_int de_int)) (dss_one (ds_ixv C.toCxD 0 v__law_draw._law_rng (de_v C.toCxD 2 v__law_draw._law_cell) de_int)) (dss_one (ds_ixv C.toCxD 0 v__law_draw._law_rng (de_mod (de_add (de_add (de_mul (de_ix (de_v C.toCxD 0 v__law_draw._law_rng) de_int (fun _ _ => rfl) C.toCxD.hK) de_int) (de_mul (de_mod (de_v C.toCxD 2 v__law_draw._law_cell) de_int) de_int) C.toCxD.hK) de_int C.toCxD.hK) de_int) de_int)))))) dss_nil) (dss_cons (ds_if (dt_gt (de_ix (de_v C.toCxD 0 v__law_draw._law_rng) de_int (fun _ _ => rfl) C.toCxD.hK) de_int) (dss_cons (ds_v C.toCxD 3 (C.st l__law_draw._law_got) (de_mod (de_ix (de_v C.toCxD 0 v__law_draw._law_rng) de_int (fun _ _ => rfl) C.toCxD.hK) (de_v C.toCxD 1 v__law_draw._law_many))) (dss_cons (ds_ixv C.toCxD 0 v__law_draw._law_rng (de_fdiv (de_ix (de_v C.toCxD 0 v__law_draw._law_rng) de_int (fun _ _ => rfl) C.toCxD.hK) (de_v C.toCxD 1 v__law_draw._law_many)) de_int) (dss_one (ds_ret (de_v C.toCxD 3 v__law_draw._law_got))))) dss_nil) (dss_cons (ds_v C.toCxD 4 (C.st l__law_draw._law_seed) (de_ix (de_v C.toCxD 0 v__law_draw._law_rng) de_int (fun _ _ => rfl) C.toCxD.hK)) (dss_cons (ds_ixv C.toCxD 0 v__law_draw._law_rng (de_mod (de_add (de_add (de_mul (de_v C.toCxD 4 v__law_draw._law_seed) (de_add (de_mod (de_v C.toCxD 4 v__law_draw._law_seed) de_int) de_int C.toCxD.hK)) (de_mul (de_v C.toCxD 4 v__law_draw._law_seed) de_int) C.toCxD.hK) de_int C.toCxD.hK) de_int) de_int) (dss_one (ds_ret (de_mod (de_add (de_fdiv (de_ix (de_v C.toCxD 0 v__law_draw._law_rng) de_int (fun _ _ => rfl) C.toCxD.hK) de_int) (de_mul (de_mod (de_ix (de_v C.toCxD 0 v__law_draw._law_rng) de_int (fun _ _ => rfl) C.toCxD.hK) de_int) de_int) C.toCxD.hK) (de_v C.toCxD 1 v__law_draw._law_many))))))))
theorem ok__law_draw {P : Program} {w : World} {base : Heap} {M : Mx} (T : Tx M w) (Dx : DefAt M "_law_draw" s__law_draw ["_law_rng", "_law_many"])  : FnOk P w M.K M.mg base (L2.CX P w) 1 Dx.f Dx.fd ["_law_rng", "_law_many"] (spD M 2 m__law_draw) := by
  have h : ∀ (cdv : Value) (A : Around) (outer : List Env) (s : Shared) (H : Hp) (E : XK), Room 0 (A.deeper (envOfC "_law_draw" (defScope s__law_draw) s.heap.objs.size Dx.f cdv)) → DSs (cxOf (L2.CX P w) P w M.K M.mg base n__law_draw "_law_draw" (defScope s__law_draw) Dx.f cdv A outer s H E) M (fun cls d _ H' => E cls d H') (defBody s__law_draw) b__law_draw := fun cdv A outer s H E hr => d__law_draw T  (cxF_of sc__law_draw hr)
  exact fn_D Dx.fu sc__law_draw h
def cal__law_draw {P : Program} {w : World} {base : Heap} {M : Mx} (T : Tx M w) (Dx : DefAt M "_law_draw" s__law_draw ["_law_rng", "_law_many"])  : Cal P w base M "_law_draw" 1 2 m__law_draw := Dx.cal (ok__law_draw (P := P) (base := base) T Dx )
abbrev s__law_pick : Stmt := topS 24
abbrev n__law_pick : List Str := ["_law_rng", "_law_items"]
theorem sc__law_pick : FnScope n__law_pick ["_law_rng", "_law_items"] (defScope s__law_pick) := ⟨rfl, rfl, rfl, by decide +kernel, rfl, by decide +kernel, by decide +kernel⟩
structure V__law_pick : Prop where
  _law_items : NameOk (defScope s__law_pick) "_law_items"
  _law_rng : NameOk (defScope s__law_pick) "_law_rng"
theorem v__law_pick : V__law_pick := ⟨⟨by unfold Vis; decide +kernel, by decide +kernel, by decide +kernel⟩, ⟨by unfold Vis; decide +kernel, by decide +kernel, by decide +kernel⟩⟩
structure G__law_pick : Prop where
  len : GlOk (defScope s__law_pick) "len"
  _law_draw : GlOk (defScope s__law_pick) "_law_draw"
theorem g__law_pick : G__law_pick := ⟨⟨by decide +kernel, by decide +kernel, by decide +kernel⟩, ⟨by decide +kernel, by decide +kernel, by decide +kernel⟩⟩
def b__law_pick : DM Fl := sRet (dOp2 ixD (dVar 1) (dCall 2 [] m__law_draw (aIo 0 (aCons (dCb gLen (vCons (dVar 1) (vNil))) (aNil)))))
def m__law_pick : SE → R RV := mFn n__law_pick.length b__law_pick
theorem d__law_pick {P : Program} {w : World} {base : Heap} {M : Mx} (T : Tx M w) (C__law_draw : Cal P w base M "_law_draw" 1 2 m__law_draw) {X : Cx} {W : DL.WX} (C : CxF P w base M n__law_pick (defScope s__law_pick) 1 X W) : DSs X M W (defBody s__law_pick) b__law_pick :=
  (dss_one (ds_ret (de_ix (de_v C.toCxD 1 v__law_pick._law_items) (de_callC C.toCxD C__law_draw g__law_pick._law_draw (by decide) (da_v C.toCxD 0 v__law_pick._law_rng (da_cons (de_lenF C.toCxD g__law_pick.len T.z_len (dv_cons (de_v C.toCxD 1 v__law_pick._law_items) dv_nil)) da_nil))) (fun _ _ => rfl) C.toCxD.hK)))
theorem ok__law_pick {P : Program} {w : World} {base : Heap} {M : Mx} (T : Tx M w) (Dx : DefAt M "_law_pick" s__law_pick ["_law_rng", "_law_items"]) (C__law_draw : Cal P w base M "_law_draw" 1 2 m__law_draw) : FnOk P w M.K M.mg base (L2.CX P w) 2 Dx.f Dx.fd ["_law_rng", "_law_items"] (spD M 2 m__law_pick) := by
  have h : ∀ (cdv : Value) (A : Around) (outer : List Env) (s : Shared) (H : Hp) (E : XK), Room 1 (A.deeper (envOfC "_law_pick" (defScope s__law_pick) s.heap.objs.size Dx.f cdv)) → DSs (cxOf (L2.CX P w) P w M.K M.mg base n__law_pick "_law_pick" (defScope s__law_pick) Dx.f cdv A outer s H E) M (fun cls d _ H' => E cls d H') (defBody s__law_pick) b__law_pick := fun cdv A outer s H E hr => d__law_pick T C__law_draw (cxF_of sc__law_pick hr)
  exact fn_D Dx.fu sc__law_pick h
def cal__law_pick {P : Program} {w : World} {base : Heap} {M : Mx} (T : Tx M w) (Dx : DefAt M "_law_pick" s__law_pick ["_law_rng", "_law_items"]) (C__law_draw : Cal P w base M "_law_draw" 1 2 m__law_draw) : Cal P w base M "_law_pick" 2 2 m__law_pick := Dx.cal (ok__law_pick (P := P) (base := base) T Dx C__law_draw)
abbrev s__law_letters : Stmt := topS 32
abbrev n__law_letters : List Str := []
theorem sc__law_letters : FnScope n__law_letters [] (defScope s__law_letters) := ⟨rfl, rfl, rfl, by decide +kernel, rfl, by decide +kernel, by decide +kernel⟩
def b__law_letters : DM Fl := sRet (dC (.str "abcdefghijklmnopqrstuvwxyz"))
def m__law_letters : SE → R RV := mFn n__law_letters.length b__law_letters
theorem d__law_letters {P : Program} {w : World} {base : Heap} {M : Mx} (T : Tx M w)  {X : Cx} {W : DL.WX} (C : CxF P w base M n__law_letters (defScope s__law_letters) 0 X W) : DSs X M W (defBody s__law_letters) b__law_letters :=
  (dss_one (ds_ret de_str))
theorem ok__law_letters {P : Program} {w : World} {base : Heap} {M : Mx} (T : Tx M w) (Dx : DefAt M "_law_letters" s__law_letters [])  : FnOk P w M.K M.mg base (L2.CX P w) 1 Dx.f Dx.fd [] (spD M 0 m__law_letters) := by
  have h : ∀ (cdv : Value) (A : Around) (outer : List Env) (s : Shared) (H : Hp) (E : XK), Room 0 (A.deeper (envOfC "_law_letters" (defScope s__law_letters) s.heap.objs.size Dx.f cdv)) → DSs (cxOf (L2.CX P w) P w M.K M.mg base n__law_letters "_law_letters" (defScope s__law_letters) Dx.f cdv A outer s H E) M (fun cls d _ H' => E cls d H') (defBody s__law_letters) b__law_letters := fun cdv A outer s H E hr => d__law_letters T  (cxF_of sc__law_letters hr)
  exact fn_D Dx.fu sc__law_letters h
def cal__law_letters {P : Program} {w : World} {base : Heap} {M : Mx} (T : Tx M w) (Dx : DefAt M "_law_letters" s__law_letters [])  : Cal P w base M "_law_letters" 1 0 m__law_letters := Dx.cal (ok__law_letters (P := P) (base := base) T Dx )
abbrev s__law_names : Stmt := topS 33
abbrev n__law_names : List Str := ["_law_rng", "_law_many", "_law_width", "_law_step", "_law_lead", "_law_at", "_law_base", "_law_k", "_law_result", "_law_letter", "_law_name"]
theorem sc__law_names : FnScope n__law_names ["_law_rng", "_law_many"] (defScope s__law_names) := ⟨rfl, rfl, rfl, by decide +kernel, rfl, by decide +kernel, by decide +kernel⟩
structure V__law_names : Prop where
  _law_rng : NameOk (defScope s__law_names) "_law_rng"
  _law_width : NameOk (defScope s__law_names) "_law_width"
  _law_many : NameOk (defScope s__law_names) "_law_many"
  _law_lead : NameOk (defScope s__law_names) "_law_lead"
  _law_step : NameOk (defScope s__law_names) "_law_step"
  _law_k : NameOk (defScope s__law_names) "_law_k"
  _law_base : NameOk (defScope s__law_names) "_law_base"
  _law_at : NameOk (defScope s__law_names) "_law_at"
  _law_letter : NameOk (defScope s__law_names) "_law_letter"
  _law_result : NameOk (defScope s__law_names) "_law_result"
theorem v__law_names : V__law_names := ⟨⟨by unfold Vis; decide +kernel, by decide +kernel, by decide +kernel⟩, ⟨by unfold Vis; decide +kernel, by decide +kernel, by decide +kernel⟩, ⟨by unfold Vis; decide +kernel, by decide +kernel, by decide +kernel⟩, ⟨by unfold Vis; decide +kernel, by decide +kernel, by decide +kernel⟩, ⟨by unfold Vis; decide +kernel, by decide +kernel, by decide +kernel⟩, ⟨by unfold Vis; decide +kernel, by decide +kernel, by decide +kernel⟩, ⟨by unfold Vis; decide +kernel, by decide +kernel, by decide +kernel⟩, ⟨by unfold Vis; decide +kernel, by decide +kernel, by decide +kernel⟩, ⟨by unfold Vis; decide +kernel, by decide +kernel, by decide +kernel⟩, ⟨by unfold Vis; decide +kernel, by decide +kernel, by decide +kernel⟩⟩
structure L__law_names : Prop where
  _law_base : L2.Loc (defScope s__law_names) "_law_base"
  _law_result : L2.Loc (defScope s__law_names) "_law_result"
  _law_k : L2.Loc (defScope s__law_names) "_law_k"
  _law_letter : L2.Loc (defScope s__law_names) "_law_letter"
theorem l__law_names : L__law_names := ⟨by unfold L2.Loc; decide +kernel, by unfold L2.Loc; decide +kernel, by unfold L2.Loc; decide +kernel, by unfold L2.Loc; decide +kernel⟩
structure G__law_names : Prop where
  _law_pick : GlOk (defScope s__law_names) "_law_pick"
  _law_draw : GlOk (defScope s__law_names) "_law_draw"
  range : GlOk (defScope s__law_names) "range"
  _law_letters : GlOk (defScope s__law_names) "_law_letters"
theorem g__law_names : G__law_names := ⟨⟨by decide +kernel, by decide +kernel, by decide +kernel⟩, ⟨by decide +kernel, by decide +kernel, by decide +kernel⟩, ⟨by decide +kernel, by decide +kernel, by decide +kernel⟩, ⟨by decide +kernel, by decide +kernel, by decide +kernel⟩⟩
def b__law_names : DM Fl := sSeq (sPar 2 3 (aCons (dOp2 addD (dC (.int 2)) (dCall 2 [] m__law_draw (aIo 0 (aCons (dC (.int 6)) (aNil))))) (aCons (dCall 2 [] m__law_pick (aIo 0 (aCons (dLst (aCons (dC (.int 1)) (aCons (dC (.int 3)) (aCons (dC (.int 5)) (aCons (dC (.int 7)) (aCons (dC (.int 9)) (aNil))))))) (aNil)))) (aNil)))) (sSeq (sPar 4 5 (aCons (dCall 2 [] m__law_draw (aIo 0 (aCons (dC (.int 26)) (aNil)))) (aCons (dCall 2 [] m__law_draw (aIo 0 (aCons (dVar 2) (aNil)))) (aNil)))) (sSeq (sSet 6 (dStrJoin (dC (.str "")) (dLc [7] (iRange1 (vCons (dVar 2) (vNil))) (tgName 7) (tYesD) (dCall 2 [] m__law_pick (aIo 0 (aCons (dCall 0 [] m__law_letters aNil) (aNil))))))) (sSeq (sSet 8 (dLst (aNil))) (sSeq (sFor (iRange1 (vCons (dVar 1) (vNil))) (tgName 7) (sSeq (sSet 9 (dOp2 modD (dOp2 addD (dVar 4) (dOp2 mulD (dVar 3) (dVar 7))) (dC (.int 26)))) (sExpr (lmD 8 gAppend (aCons (dOp2 addD (dOp2 addD (dSl (dVar 6) (oNone) (oSome (dVar 5))) (dOp2 ixD (dCall 0 [] m__law_letters aNil) (dVar 9))) (dSl (dVar 6) (oSome (dOp2 addD (dVar 5) (dC (.int 1)))) (oNone))) (aNil)))))) (sSeq (sIf (dOrT (fun ρ => (dOp2 (inD false) (dC (.str "abs")) (dVar 8) ρ).bind asB) (dOrT (fun ρ => (dOp2 (inD false) (dC (.str "max")) (dVar 8) ρ).bind asB) (fun ρ => (dOp2 (inD false) (dC (.str "min")) (dVar 8) ρ).bind asB))) (sSet 8 (dLc [10] (iSeq (dVar 8)) (tgName 10) (tYesD) (dOp2 addD (dVar 10) (dC (.str "q"))))) (sPass)) (sRet (dVar 8)))))))
def m__law_names : SE → R RV := mFn n__law_names.length b__law_names
theorem d__law_names {P : Program} {w : World} {base : Heap} {M : Mx} (T : Tx M w) (C__law_pick : Cal P w base M "_law_pick" 2 2 m__law_pick) (C__law_draw : Cal P w base M "_law_draw" 1 2 m__law_draw) (C__law_letters : Cal P w base M "_law_letters" 1 0 m__law_letters) {X : Cx} {W : DL.WX} (C : CxF P w base M n__law_names (defScope s__law_names) 2 X W) : DSs X M W (defBody s__law_names) b__law_names :=
  (dss_cons (ds_parv C.toCxD 2 3 (by decide +kernel) (by decide +kernel) rfl (by decide +kernel) (da_cons (de_add de_int (de_callC C.toCxD C__law_draw g__law_names._law_draw (by decide) (da_v C.toCxD 0 v__law_names._law_rng (da_cons de_int da_nil))) C.toCxD.hK) (da_cons (de_callC C.toCxD C__law_pick g__law_names._law_pick (by decide) (da_v C.toCxD 0 v__law_names._law_rng (da_cons (de_lst (da_cons de_int (da_cons de_int (da_cons de_int (da_cons de_int (da_cons de_int da_nil)))))) da_nil))) da_nil))) (dss_cons (ds_parv C.toCxD 4 5 (by decide +kernel) (by decide +kernel) rfl (by decide +kernel) (da_cons (de_callC C.toCxD C__law_draw g__law_names._law_draw (by decide) (da_v C.toCxD 0 v__law_names._law_rng (da_cons de_int da_nil))) (da_cons (de_callC C.toCxD C__law_draw g__law_names._law_draw (by decide) (da_v C.toCxD 0 v__law_names._law_rng (da_cons (de_v C.toCxD 2 v__law_names._law_width) da_nil))) da_nil))) (dss_cons (ds_v C.toCxD 6 (C.st l__law_names._law_base) (de_joinF C.toCxD de_str (de_lcF C.toCxD [("_law_k", 7)] (blkOk_by (by decide +kernel)) tgName_ex (di_range1F C.toCxD g__law_names.range T.z_range (dv_cons (de_v C.toCxD 2 v__law_names._law_width) dv_nil)) (fun _ _ _ _ _ => (dg_v (C.toCxD.blk rfl _ _ _ _ _) 7 ((C.toCxD.blk rfl _ _ _ _ _).stl (by decide +kernel)))) (fun _ _ _ _ _ => dts_nil) (fun _ _ _ _ _ => (de_callC (C.toCxD.blk rfl _ _ _ _ _) C__law_pick ⟨by decide +kernel, by decide +kernel, by decide +kernel⟩ (by decide) (da_v (C.toCxD.blk rfl _ _ _ _ _) 0 ⟨by unfold Vis; decide +kernel, by decide +kernel, by decide +kernel⟩ (da_cons (de_callC0 (C.toCxD.blk rfl _ _ _ _ _) C__law_letters ⟨by decide +kernel, by decide +kernel, by decide +kernel⟩ (by decide)) da_nil))))))) (dss_cons (ds_v C.toCxD 8 (C.st l__law_names._law_result) (de_lst da_nil)) (dss_cons (ds_for C.ps C.cm (di_range1F C.toCxD g__law_names.range T.z_range (dv_cons (de_v C.toCxD 1 v__law_names._law_many) dv_nil)) (dg_v C.toCxD 7 (C.st l__law_names._law_k)) (dss_cons (ds_v C.toCxD 9 (C.st l__law_names._law_letter) (de_mod (de_add (de_v C.toCxD 4 v__law_names._law_lead) (de_mul (de_v C.toCxD 3 v__law_names._law_step) (de_v C.toCxD 7 v__law_names._law_k)) C.toCxD.hK) de_int)) (dss_one (ds_expr (de_lm C.toCxD 8 v__law_names._law_result lm_append (fun to t p q => pe_bm PySem.F.plainAttrs_list PySem.F.slot_list_append PySem.F.type_list_append mt_append p q) (da_cons (de_add (de_add (de_sl (de_v C.toCxD 6 v__law_names._law_base) do_none (do_some (de_v C.toCxD 5 v__law_names._law_at)) C.toCxD.hK) (de_ix (de_callC0 C.toCxD C__law_letters g__law_names._law_letters (by decide)) (de_v C.toCxD 9 v__law_names._law_letter) (fun _ _ => rfl) C.toCxD.hK) C.toCxD.hK) (de_sl (de_v C.toCxD 6 v__law_names._law_base) (do_some (de_add (de_v C.toCxD 5 v__law_names._law_at) de_int C.toCxD.hK)) do_none C.toCxD.hK) C.toCxD.hK) da_nil)))))) (dss_cons (ds_if (dt_w (dw_or (dt_in de_str (de_v C.toCxD 8 v__law_names._law_result) C.toCxD.u65 rfl C.toCxD.hK) (dw_or (dt_in de_str (de_v C.toCxD 8 v__law_names._law_result) C.toCxD.u65 rfl C.toCxD.hK) (dw_or1 (dt_in de_str (de_v C.toCxD 8 v__law_names._law_result) C.toCxD.u65 rfl C.toCxD.hK))))) (dss_one (ds_setLcF C.toCxD 8 (by decide +kernel) rfl (by decide +kernel) [("_law_name", 10)] (blkOk_by (by decide +kernel)) tgName_ex (di_seq (de_v C.toCxD 8 v__law_names._law_result) C.toCxD.hK) (fun _ _ _ _ _ => (dg_v (C.toCxD.blk rfl _ _ _ _ _) 10 ((C.toCxD.blk rfl _ _ _ _ _).stl (by decide +kernel)))) (fun _ _ _ _ _ => dts_nil) (fun _ _ _ _ _ => (de_add (de_v (C.toCxD.blk rfl _ _ _ _ _) 10 ⟨by unfold Vis; decide +kernel, by decide +kernel, by decide +kernel⟩) de_str (C.toCxD.blk rfl _ _ _ _ _).hK)))) dss_nil) (dss_one (ds_ret (de_v C.toCxD 8 v__law_names._law_result)))))))))
theorem ok__law_names {P : Program} {w : World} {base : Heap} {M : Mx} (T : Tx M w) (Dx : DefAt M "_law_names" s__law_names ["_law_rng", "_law_many"]) (C__law_pick : Cal P w base M "_law_pick" 2 2 m__law_pick) (C__law_draw : Cal P w base M "_law_draw" 1 2 m__law_draw) (C__law_letters : Cal P w base M "_law_letters" 1 0 m__law_letters) : FnOk P w M.K M.mg base (L2.CX P w) 3 Dx.f Dx.fd ["_law_rng", "_law_many"] (spD M 2 m__law_names) := by
  have h : ∀ (cdv : Value) (A : Around) (outer : List Env) (s : Shared) (H : Hp) (E : XK), Room 2 (A.deeper (envOfC "_law_names" (defScope s__law_names) s.heap.objs.size Dx.f cdv)) → DSs (cxOf (L2.CX P w) P w M.K M.mg base n__law_names "_law_names" (defScope s__law_names) Dx.f cdv A outer s H E) M (fun cls d _ H' => E cls d H') (defBody s__law_names) b__law_names := fun cdv A outer s H E hr => d__law_names T C__law_pick C__law_draw C__law_letters (cxF_of sc__law_names hr)
  exact fn_D Dx.fu sc__law_names h
def cal__law_names {P : Program} {w : World} {base : Heap} {M : Mx} (T : Tx M w) (Dx : DefAt M "_law_names" s__law_names ["_law_rng", "_law_many"]) (C__law_pick : Cal P w base M "_law_pick" 2 2 m__law_pick) (C__law_draw : Cal P w base M "_law_draw" 1 2 m__law_draw) (C__law_letters : Cal P w base M "_law_letters" 1 0 m__law_letters) : Cal P w base M "_law_names" 3 2 m__law_names := Dx.cal (ok__law_names (P := P) (base := base) T Dx C__law_pick C__law_draw C__law_letters)
abbrev s__law_lowest : Stmt := topS 26
abbrev n__law_lowest : List Str := ["_law_above", "_law_below", "_law_one", "_law_other"]
theorem sc__law_lowest : FnScope n__law_lowest ["_law_above", "_law_below"] (defScope s__law_lowest) := ⟨rfl, rfl, rfl, by decide +kernel, rfl, by decide +kernel, by decide +kernel⟩
structure V__law_lowest : Prop where
  _law_below : NameOk (defScope s__law_lowest) "_law_below"
  _law_above : NameOk (defScope s__law_lowest) "_law_above"
  _law_other : NameOk (defScope s__law_lowest) "_law_other"
  _law_one : NameOk (defScope s__law_lowest) "_law_one"
theorem v__law_lowest : V__law_lowest := ⟨⟨by unfold Vis; decide +kernel, by decide +kernel, by decide +kernel⟩, ⟨by unfold Vis; decide +kernel, by decide +kernel, by decide +kernel⟩, ⟨by unfold Vis; decide +kernel, by decide +kernel, by decide +kernel⟩, ⟨by unfold Vis; decide +kernel, by decide +kernel, by decide +kernel⟩⟩
structure G__law_lowest : Prop where
  abs : GlOk (defScope s__law_lowest) "abs"
theorem g__law_lowest : G__law_lowest := ⟨⟨by decide +kernel, by decide +kernel, by decide +kernel⟩⟩
def b__law_lowest : DM Fl := sSeq (sIf (fun ρ => (dOp2 ltD (dVar 1) (dC (.int 0)) ρ).bind asB) (sPar 0 1 (aCons (dOp2 subD (dC (.int 0)) (dVar 0)) (aCons (dOp2 subD (dC (.int 0)) (dVar 1)) (aNil)))) (sPass)) (sSeq (sPar 2 3 (aCons (dCb gAbs (vCons (dVar 0) (vNil))) (aCons (dVar 1) (aNil)))) (sSeq (sWhile (fun ρ => (dOp2 neD (dVar 3) (dC (.int 0)) ρ).bind asB) (sPar 2 3 (aCons (dVar 3) (aCons (dOp2 modD (dVar 2) (dVar 3)) (aNil))))) (sRet (dTup (aCons (dOp2 fdivD (dVar 0) (dVar 2)) (aCons (dOp2 fdivD (dVar 1) (dVar 2)) (aNil)))))))
def m__law_lowest : SE → R RV := mFn n__law_lowest.length b__law_lowest
theorem d__law_lowest {P : Program} {w : World} {base : Heap} {M : Mx} (T : Tx M w)  {X : Cx} {W : DL.WX} (C : CxF P w base M n__law_lowest (defScope s__law_lowest) 0 X W) : DSs X M W (defBody s__law_lowest) b__law_lowest :=
  (dss_cons (ds_if (dt_lt (de_v C.toCxD 1 v__law_lowest._law_below) de_int) (dss_one (ds_parv C.toCxD 0 1 (by decide +kernel) (by decide +kernel) rfl (by decide +kernel) (da_cons (de_sub de_int (de_v C.toCxD 0 v__law_lowest._law_above)) (da_cons (de_sub de_int (de_v C.toCxD 1 v__law_lowest._law_below)) da_nil)))) dss_nil) (dss_cons (ds_parv C.toCxD 2 3 (by decide +kernel) (by decide +kernel) rfl (by decide +kernel) (da_cons (de_absF C.toCxD g__law_lowest.abs T.z_abs (dv_cons (de_v C.toCxD 0 v__law_lowest._law_above) dv_nil)) (da_cons (de_v C.toCxD 1 v__law_lowest._law_below) da_nil))) (dss_cons (ds_while C.ps (dt_ne (de_v C.toCxD 3 v__law_lowest._law_other) de_int C.toCxD.u64 C.toCxD.hK) (dss_one (ds_parv C.toCxD 2 3 (by decide +kernel) (by decide +kernel) rfl (by decide +kernel) (da_cons (de_v C.toCxD 3 v__law_lowest._law_other) (da_cons (de_mod (de_v C.toCxD 2 v__law_lowest._law_one) (de_v C.toCxD 3 v__law_lowest._law_other)) da_nil))))) (dss_one (ds_ret (de_tup (da_cons (de_fdiv (de_v C.toCxD 0 v__law_lowest._law_above) (de_v C.toCxD 2 v__law_lowest._law_one)) (da_cons (de_fdiv (de_v C.toCxD 1 v__law_lowest._law_below) (de_v C.toCxD 2 v__law_lowest._law_one)) da_nil))))))))
theorem ok__law_lowest {P : Program} {w : World} {base : Heap} {M : Mx} (T : Tx M w) (Dx : DefAt M "_law_lowest" s__law_lowest ["_law_above", "_law_below"])  : FnOk P w M.K M.mg base (L2.CX P w) 1 Dx.f Dx.fd ["_law_above", "_law_below"] (spD M 2 m__law_lowest) := by
  have h : ∀ (cdv : Value) (A : Around) (outer : List Env) (s : Shared) (H : Hp) (E : XK), Room 0 (A.deeper (envOfC "_law_lowest" (defScope s__law_lowest) s.heap.objs.size Dx.f cdv)) → DSs (cxOf (L2.CX P w) P w M.K M.mg base n__law_lowest "_law_lowest" (defScope s__law_lowest) Dx.f cdv A outer s H E) M (fun cls d _ H' => E cls d H') (defBody s__law_lowest) b__law_lowest := fun cdv A outer s H E hr => d__law_lowest T  (cxF_of sc__law_lowest hr)
  exact fn_D Dx.fu sc__law_lowest h
def cal__law_lowest {P : Program} {w : World} {base : Heap} {M : Mx} (T : Tx M w) (Dx : DefAt M "_law_lowest" s__law_lowest ["_law_above", "_law_below"])  : Cal P w base M "_law_lowest" 1 2 m__law_lowest := Dx.cal (ok__law_lowest (P := P) (base := base) T Dx )
abbrev s__law_text_fraction : Stmt := topS 34
abbrev n__law_text_fraction : List Str := ["_law_rng", "_law_below"]
theorem sc__law_text_fraction : FnScope n__law_text_fraction ["_law_rng"] (defScope s__law_text_fraction) := ⟨rfl, rfl, rfl, by decide +kernel, rfl, by decide +kernel, by decide +kernel⟩
structure V__law_text_fraction : Prop where
  _law_rng : NameOk (defScope s__law_text_fraction) "_law_rng"
  _law_below : NameOk (defScope s__law_text_fraction) "_law_below"
theorem v__law_text_fraction : V__law_text_fraction := ⟨⟨by unfold Vis; decide +kernel, by decide +kernel, by decide +kernel⟩, ⟨by unfold Vis; decide +kernel, by decide +kernel, by decide +kernel⟩⟩
structure L__law_text_fraction : Prop where
  _law_below : L2.Loc (defScope s__law_text_fraction) "_law_below"
theorem l__law_text_fraction : L__law_text_fraction := ⟨by unfold L2.Loc; decide +kernel⟩
structure G__law_text_fraction : Prop where
  _law_draw : GlOk (defScope s__law_text_fraction) "_law_draw"
  _law_pick : GlOk (defScope s__law_text_fraction) "_law_pick"
  _law_lowest : GlOk (defScope s__law_text_fraction) "_law_lowest"
theorem g__law_text_fraction : G__law_text_fraction := ⟨⟨by decide +kernel, by decide +kernel, by decide +kernel⟩, ⟨by decide +kernel, by decide +kernel, by decide +kernel⟩, ⟨by decide +kernel, by decide +kernel, by decide +kernel⟩⟩
def b__law_text_fraction : DM Fl := sSeq (sSet 1 (dCall 2 [] m__law_pick (aIo 0 (aCons (dLst (aCons (dC (.int 1)) (aCons (dC (.int 1)) (aCons (dC (.int 2)) (aCons (dC (.int 3)) (aCons (dC (.int 4)) (aCons (dC (.int 7)) (aCons (dOp2 addD (dC (.int 1)) (dCall 2 [] m__law_draw (aIo 0 (aCons (dC (.int 999999)) (aNil))))) (aNil))))))))) (aNil))))) (sRet (dCall 2 [] m__law_lowest (aCons (dOp2 subD (dCall 2 [] m__law_draw (aIo 0 (aCons (dOp2 addD (dOp2 mulD (dC (.int 2)) (dCall 2 [] m__law_pick (aIo 0 (aCons (dLst (aCons (dC (.int 4)) (aCons (dC (.int 4)) (aCons (dC (.int 499999)) (aNil))))) (aNil))))) (dC (.int 1))) (aNil)))) (dC (.int 4))) (aCons (dVar 1) (aNil)))))
def m__law_text_fraction : SE → R RV := mFn n__law_text_fraction.length b__law_text_fraction
theorem d__law_text_fraction {P : Program} {w : World} {base : Heap} {M : Mx} (T : Tx M w) (C__law_pick : Cal P w base M "_law_pick" 2 2 m__law_pick) (C__law_draw : Cal P w base M "_law_draw" 1 2 m__law_draw) (C__law_lowest : Cal P w base M "_law_lowest" 1 2 m__law_lowest) {X : Cx} {W : DL.WX} (C : CxF P w base M n__law_text_fraction (defScope s__law_text_fraction) 2 X W) : DSs X M W (defBody s__law_text_fraction) b__law_text_fraction :=
  (dss_cons (ds_v C.toCxD 1 (C.st l__law_text_fraction._law_below) (de_callC C.toCxD C__law_pick g__law_text_fraction._law_pick (by decide) (da_v C.toCxD 0 v__law_text_fraction._law_rng (da_cons (de_lst (da_cons de_int (da_cons de_int (da_cons de_int (da_cons de_int (da_cons de_int (da_cons de_int (da_cons (de_add de_int (de_callC C.toCxD C__law_draw g__law_text_fraction._law_draw (by decide) (da_v C.toCxD 0 v__law_text_fraction._law_rng (da_cons de_int da_nil))) C.toCxD.hK) da_nil)))))))) da_nil)))) (dss_one (ds_ret (de_callC C.toCxD C__law_lowest g__law_text_fraction._law_lowest (by decide) (da_cons (de_sub (de_callC C.toCxD C__law_draw g__law_text_fraction._law_draw (by decide) (da_v C.toCxD 0 v__law_text_fraction._law_rng (da_cons (de_add (de_mul de_int (de_callC C.toCxD C__law_pick g__law_text_fraction._law_pick (by decide) (da_v C.toCxD 0 v__law_text_fraction._law_rng (da_cons (de_lst (da_cons de_int (da_cons de_int (da_cons de_int da_nil)))) da_nil)))) de_int C.toCxD.hK) da_nil))) de_int) (da_cons (de_v C.toCxD 1 v__law_text_fraction._law_below) da_nil))))))
theorem ok__law_text_fraction {P : Program} {w : World} {base : Heap} {M : Mx} (T : Tx M w) (Dx : DefAt M "_law_text_fraction" s__law_text_fraction ["_law_rng"]) (C__law_pick : Cal P w base M "_law_pick" 2 2 m__law_pick) (C__law_draw : Cal P w base M "_law_draw" 1 2 m__law_draw) (C__law_lowest : Cal P w base M "_law_lowest" 1 2 m__law_lowest) : FnOk P w M.K M.mg base (L2.CX P w) 3 Dx.f Dx.fd ["_law_rng"] (spD M 1 m__law_text_fraction) := by
  have h : ∀ (cdv : Value) (A : Around) (outer : List Env) (s : Shared) (H : Hp) (E : XK), Room 2 (A.deeper (envOfC "_law_text_fraction" (defScope s__law_text_fraction) s.heap.objs.size Dx.f cdv)) → DSs (cxOf (L2.CX P w) P w M.K M.mg base n__law_text_fraction "_law_text_fraction" (defScope s__law_text_fraction) Dx.f cdv A outer s H E) M (fun cls d _ H' => E cls d H') (defBody s__law_text_fraction) b__law_text_fraction := fun cdv A outer s H E hr => d__law_text_fraction T C__law_pick C__law_draw C__law_lowest (cxF_of sc__law_text_fraction hr)
  exact fn_D Dx.fu sc__law_text_fraction h
def cal__law_text_fraction {P : Program} {w : World} {base : Heap} {M : Mx} (T : Tx M w) (Dx : DefAt M "_law_text_fraction" s__law_text_fraction ["_law_rng"]) (C__law_pick : Cal P w base M "_law_pick" 2 2 m__law_pick) (C__law_draw : Cal P w base M "_law_draw" 1 2 m__law_draw) (C__law_lowest : Cal P w base M "_law_lowest" 1 2 m__law_lowest) : Cal P w base M "_law_text_fraction" 3 1 m__law_text_fraction := Dx.cal (ok__law_text_fraction (P := P) (base := base) T Dx C__law_pick C__law_draw C__law_lowest)
abbrev s__law_expression : Stmt := topS 35
abbrev n__law_expression : List Str := ["_law_rng", "_law_names_here", "_law_depth", "_law_way", "_law_word", "_law_front"]
theorem sc__law_expression : FnScope n__law_expression ["_law_rng", "_law_names_here", "_law_depth"] (defScope s__law_expression) := ⟨rfl, rfl, rfl, by decide +kernel, rfl, by decide +kernel, by decide +kernel⟩
structure V__law_expression : Prop where
  _law_rng : NameOk (defScope s__law_expression) "_law_rng"
  _law_depth : NameOk (defScope s__law_expression) "_law_depth"
  _law_way : NameOk (defScope s__law_expression) "_law_way"
  _law_names_here : NameOk (defScope s__law_expression) "_law_names_here"
  _law_front : NameOk (defScope s__law_expression) "_law_front"
  _law_word : NameOk (defScope s__law_expression) "_law_word"
theorem v__law_expression : V__law_expression := ⟨⟨by unfold Vis; decide +kernel, by decide +kernel, by decide +kernel⟩, ⟨by unfold Vis; decide +kernel, by decide +kernel, by decide +kernel⟩, ⟨by unfold Vis; decide +kernel, by decide +kernel, by decide +kernel⟩, ⟨by unfold Vis; decide +kernel, by decide +kernel, by decide +kernel⟩, ⟨by unfold Vis; decide +kernel, by decide +kernel, by decide +kernel⟩, ⟨by unfold Vis; decide +kernel, by decide +kernel, by decide +kernel⟩⟩
structure L__law_expression : Prop where
  _law_way : L2.Loc (defScope s__law_expression) "_law_way"
  _law_word : L2.Loc (defScope s__law_expression) "_law_word"
  _law_front : L2.Loc (defScope s__law_expression) "_law_front"
theorem l__law_expression : L__law_expression := ⟨by unfold L2.Loc; decide +kernel, by unfold L2.Loc; decide +kernel, by unfold L2.Loc; decide +kernel⟩
structure G__law_expression : Prop where
  _law_draw : GlOk (defScope s__law_expression) "_law_draw"
  _law_text_fraction : GlOk (defScope s__law_expression) "_law_text_fraction"
  _law_pick : GlOk (defScope s__law_expression) "_law_pick"
  _law_expression : GlOk (defScope s__law_expression) "_law_expression"
theorem g__law_expression : G__law_expression := ⟨⟨by decide +kernel, by decide +kernel, by decide +kernel⟩, ⟨by decide +kernel, by decide +kernel, by decide +kernel⟩, ⟨by decide +kernel, by decide +kernel, by decide +kernel⟩, ⟨by decide +kernel, by decide +kernel, by decide +kernel⟩⟩
def b__law_expression (m : SE → R RV) : DM Fl := sSeq (sSet 3 (dCall 2 [] m__law_draw (aIo 0 (aCons (dC (.int 10)) (aNil))))) (sSeq (sIf (dOrT (fun ρ => (dOp2 ltD (dVar 2) (dC (.int 2)) ρ).bind asB) (fun ρ => (dOp2 eqD (dVar 3) (dC (.int 0)) ρ).bind asB)) (sRet (dCall 2 [] m__law_pick (aIo 0 (aCons (dLst (aCons (dTup (aCons (dC (.str "x")) (aNil))) (aCons (dTup (aCons (dC (.str "x")) (aNil))) (aCons (dTup (aCons (dC (.str "number")) (aCons (dCall 1 [] m__law_text_fraction (aIo 0 (aNil))) (aNil)))) (aNil))))) (aNil))))) (sPass)) (sSeq (sIf (fun ρ => (dOp2 eqD (dVar 3) (dC (.int 1)) ρ).bind asB) (sRet (dTup (aCons (dC (.str "abs")) (aCons (dCall 3 [] m (aIo 0 (aCons (dVar 1) (aCons (dOp2 subD (dVar 2) (dC (.int 1))) (aNil))))) (aNil))))) (sPass)) (sSeq (sIf (dOrT (fun ρ => (dOp2 eqD (dVar 3) (dC (.int 2)) ρ).bind asB) (fun ρ => (dOp2 eqD (dVar 3) (dC (.int 3)) ρ).bind asB)) (sRet (dTup (aCons (dC (.str "multiple")) (aCons (dCall 1 [] m__law_text_fraction (aIo 0 (aNil))) (aCons (dCall 3 [] m (aIo 0 (aCons (dVar 1) (aCons (dOp2 subD (dVar 2) (dC (.int 1))) (aNil))))) (aNil)))))) (sPass)) (sSeq (sIf (dAndT (fun ρ => (dOp2 gtD (dVar 3) (dC (.int 7)) ρ).bind asB) (fun ρ => (dOp2 neD (dVar 1) (dLst (aNil)) ρ).bind asB)) (sRet (dTup (aCons (dC (.str "call")) (aCons (dCall 2 [] m__law_pick (aIo 0 (aCons (dVar 1) (aNil)))) (aCons (dCall 3 [] m (aIo 0 (aCons (dVar 1) (aCons (dOp2 subD (dVar 2) (dC (.int 1))) (aNil))))) (aNil)))))) (sPass)) (sSeq (sSet 4 (dCall 2 [] m__law_pick (aIo 0 (aCons (dLst (aCons (dC (.str "add")) (aCons (dC (.str "subtract")) (aCons (dC (.str "max")) (aCons (dC (.str "min")) (aNil)))))) (aNil))))) (sSeq (sSet 5 (dCall 3 [] m (aIo 0 (aCons (dVar 1) (aCons (dOp2 subD (dVar 2) (dC (.int 1))) (aNil)))))) (sRet (dTup (aCons (dVar 4) (aCons (dVar 5) (aCons (dCall 3 [] m (aIo 0 (aCons (dVar 1) (aCons (dOp2 subD (dVar 2) (dC (.int 1))) (aNil))))) (aNil))))))))))))
def m__law_expression : Nat → SE → R RV
  | 0 => mBad
  | n + 1 => mFn n__law_expression.length (b__law_expression (m__law_expression n))
theorem d__law_expression {P : Program} {w : World} {base : Heap} {M : Mx} (T : Tx M w) (C__law_draw : Cal P w base M "_law_draw" 1 2 m__law_draw) (C__law_pick : Cal P w base M "_law_pick" 2 2 m__law_pick) (C__law_text_fraction : Cal P w base M "_law_text_fraction" 3 1 m__law_text_fraction) (k : Nat) (hk : 3 ≤ k) (m : SE → R RV) (C__law_expression : Cal P w base M "_law_expression" k 3 m) {X : Cx} {W : DL.WX} (C : CxF P w base M n__law_expression (defScope s__law_expression) k X W) : DSs X M W (defBody s__law_expression) (b__law_expression m) :=
  (dss_cons (ds_v C.toCxD 3 (C.st l__law_expression._law_way) (de_callC C.toCxD C__law_draw g__law_expression._law_draw (by omega) (da_v C.toCxD 0 v__law_expression._law_rng (da_cons de_int da_nil)))) (dss_cons (ds_if (dt_w (dw_or (dt_lt (de_v C.toCxD 2 v__law_expression._law_depth) de_int) (dw_or1 (dt_eq (de_v C.toCxD 3 v__law_expression._law_way) de_int C.toCxD.u64 C.toCxD.hK)))) (dss_one (ds_ret (de_callC C.toCxD C__law_pick g__law_expression._law_pick (by omega) (da_v C.toCxD 0 v__law_expression._law_rng (da_cons (de_lst (da_cons (de_tup (da_cons de_str da_nil)) (da_cons (de_tup (da_cons de_str da_nil)) (da_cons (de_tup (da_cons de_str (da_cons (de_callC C.toCxD C__law_text_fraction g__law_expression._law_text_fraction (by omega) (da_v C.toCxD 0 v__law_expression._law_rng da_nil)) da_nil))) da_nil)))) da_nil))))) dss_nil) (dss_cons (ds_if (dt_eq (de_v C.toCxD 3 v__law_expression._law_way) de_int C.toCxD.u64 C.toCxD.hK) (dss_one (ds_ret (de_tup (da_cons de_str (da_cons (de_callC C.toCxD C__law_expression g__law_expression._law_expression (by omega) (da_v C.toCxD 0 v__law_expression._law_rng (da_cons (de_v C.toCxD 1 v__law_expression._law_names_here) (da_cons (de_sub (de_v C.toCxD 2 v__law_expression._law_depth) de_int) da_nil)))) da_nil))))) dss_nil) (dss_cons (ds_if (dt_w (dw_or (dt_eq (de_v C.toCxD 3 v__law_expression._law_way) de_int C.toCxD.u64 C.toCxD.hK) (dw_or1 (dt_eq (de_v C.toCxD 3 v__law_expression._law_way) de_int C.toCxD.u64 C.toCxD.hK)))) (dss_one (ds_ret (de_tup (da_cons de_str (da_cons (de_callC C.toCxD C__law_text_fraction g__law_expression._law_text_fraction (by omega) (da_v C.toCxD 0 v__law_expression._law_rng da_nil)) (da_cons (de_callC C.toCxD C__law_expression g__law_expression._law_expression (by omega) (da_v C.toCxD 0 v__law_expression._law_rng (da_cons (de_v C.toCxD 1 v__law_expression._law_names_here) (da_cons (de_sub (de_v C.toCxD 2 v__law_expression._law_depth) de_int) da_nil)))) da_nil)))))) dss_nil) (dss_cons (ds_if (dt_w (dw_and (dt_gt (de_v C.toCxD 3 v__law_expression._law_way) de_int) (dw_and1 (dt_ne (de_v C.toCxD 1 v__law_expression._law_names_here) (de_lst da_nil) C.toCxD.u64 C.toCxD.hK)))) (dss_one (ds_ret (de_tup (da_cons de_str (da_cons (de_callC C.toCxD C__law_pick g__law_expression._law_pick (by omega) (da_v C.toCxD 0 v__law_expression._law_rng (da_cons (de_v C.toCxD 1 v__law_expression._law_names_here) da_nil))) (da_cons (de_callC C.toCxD C__law_expression g__law_expression._law_expression (by omega) (da_v C.toCxD 0 v__law_expression._law_rng (da_cons (de_v C.toCxD 1 v__law_expression._law_names_here) (da_cons (de_sub (de_v C.toCxD 2 v__law_expression._law_depth) de_int) da_nil)))) da_nil)))))) dss_nil) (dss_cons (ds_v C.toCxD 4 (C.st l__law_expression._law_word) (de_callC C.toCxD C__law_pick g__law_expression._law_pick (by omega) (da_v C.toCxD 0 v__law_expression._law_rng (da_cons (de_lst (da_cons de_str (da_cons de_str (da_cons de_str (da_cons de_str da_nil))))) da_nil)))) (dss_cons (ds_v C.toCxD 5 (C.st l__law_expression._law_front) (de_callC C.toCxD C__law_expression g__law_expression._law_expression (by omega) (da_v C.toCxD 0 v__law_expression._law_rng (da_cons (de_v C.toCxD 1 v__law_expression._law_names_here) (da_cons (de_sub (de_v C.toCxD 2 v__law_expression._law_depth) de_int) da_nil))))) (dss_one (ds_ret (de_tup (da_cons (de_v C.toCxD 4 v__law_expression._law_word) (da_cons (de_v C.toCxD 5 v__law_expression._law_front) (da_cons (de_callC C.toCxD C__law_expression g__law_expression._law_expression (by omega) (da_v C.toCxD 0 v__law_expression._law_rng (da_cons (de_v C.toCxD 1 v__law_expression._law_names_here) (da_cons (de_sub (de_v C.toCxD 2 v__law_expression._law_depth) de_int) da_nil)))) da_nil)))))))))))))
theorem ok__law_expression {P : Program} {w : World} {base : Heap} {M : Mx} (T : Tx M w) (Dx : DefAt M "_law_expression" s__law_expression ["_law_rng", "_law_names_here", "_law_depth"]) (C__law_draw : Cal P w base M "_law_draw" 1 2 m__law_draw) (C__law_pick : Cal P w base M "_law_pick" 2 2 m__law_pick) (C__law_text_fraction : Cal P w base M "_law_text_fraction" 3 1 m__law_text_fraction) : ∀ n : Nat, FnOk P w M.K M.mg base (L2.CX P w) (3 + n) Dx.f Dx.fd ["_law_rng", "_law_names_here", "_law_depth"] (spD M 3 (m__law_expression n))
  | 0 => fn_bad
  | n + 1 => by
    have ih := ok__law_expression (P := P) (base := base) T Dx C__law_draw C__law_pick C__law_text_fraction n
    have h : ∀ (cdv : Value) (A : Around) (outer : List Env) (s : Shared) (H : Hp) (E : XK), Room (3 + n) (A.deeper (envOfC "_law_expression" (defScope s__law_expression) s.heap.objs.size Dx.f cdv)) → DSs (cxOf (L2.CX P w) P w M.K M.mg base n__law_expression "_law_expression" (defScope s__law_expression) Dx.f cdv A outer s H E) M (fun cls d _ H' => E cls d H') (defBody s__law_expression) (b__law_expression (m__law_expression n)) := fun cdv A outer s H E hr => d__law_expression T C__law_draw C__law_pick C__law_text_fraction (3 + n) (by omega) (m__law_expression n) (Dx.cal ih) (cxF_of sc__law_expression hr)
    exact fn_D Dx.fu sc__law_expression h
def cal__law_expression {P : Program} {w : World} {base : Heap} {M : Mx} (T : Tx M w) (Dx : DefAt M "_law_expression" s__law_expression ["_law_rng", "_law_names_here", "_law_depth"]) (C__law_draw : Cal P w base M "_law_draw" 1 2 m__law_draw) (C__law_pick : Cal P w base M "_law_pick" 2 2 m__law_pick) (C__law_text_fraction : Cal P w base M "_law_text_fraction" 3 1 m__law_text_fraction) : Cal P w base M "_law_expression" 11 3 (m__law_expression 8) := Dx.cal (ok__law_expression (P := P) (base := base) T Dx C__law_draw C__law_pick C__law_text_fraction 8)
abbrev s__law_definitions : Stmt := topS 37
abbrev n__law_definitions : List Str := ["_law_rng", "_law_names_here", "_law_result", "_law_k"]
theorem sc__law_definitions : FnScope n__law_definitions ["_law_rng", "_law_names_here"] (defScope s__law_definitions) := ⟨rfl, rfl, rfl, by decide +kernel, rfl, by decide +kernel, by decide +kernel⟩
structure V__law_definitions : Prop where
  _law_names_here : NameOk (defScope s__law_definitions) "_law_names_here"
  _law_k : NameOk (defScope s__law_definitions) "_law_k"
  _law_rng : NameOk (defScope s__law_definitions) "_law_rng"
  _law_result : NameOk (defScope s__law_definitions) "_law_result"
theorem v__law_definitions : V__law_definitions := ⟨⟨by unfold Vis; decide +kernel, by decide +kernel, by decide +kernel⟩, ⟨by unfold Vis; decide +kernel, by decide +kernel, by decide +kernel⟩, ⟨by unfold Vis; decide +kernel, by decide +kernel, by decide +kernel⟩, ⟨by unfold Vis; decide +kernel, by decide +kernel, by decide +kernel⟩⟩
structure L__law_definitions : Prop where
  _law_result : L2.Loc (defScope s__law_definitions) "_law_result"
  _law_k : L2.Loc (defScope s__law_definitions) "_law_k"
theorem l__law_definitions : L__law_definitions := ⟨by unfold L2.Loc; decide +kernel, by unfold L2.Loc; decide +kernel⟩
structure G__law_definitions : Prop where
  len : GlOk (defScope s__law_definitions) "len"
  range : GlOk (defScope s__law_definitions) "range"
  _law_expression : GlOk (defScope s__law_definitions) "_law_expression"
theorem g__law_definitions : G__law_definitions := ⟨⟨by decide +kernel, by decide +kernel, by decide +kernel⟩, ⟨by decide +kernel, by decide +kernel, by decide +kernel⟩, ⟨by decide +kernel, by decide +kernel, by decide +kernel⟩⟩
def b__law_definitions : DM Fl := sSeq (sSet 2 (dLst (aNil))) (sSeq (sFor (iRange1 (vCons (dCb gLen (vCons (dVar 1) (vNil))) (vNil))) (tgName 3) (sExpr (lmD 2 gAppend (aCons (dTup (aCons (dOp2 ixD (dVar 1) (dVar 3)) (aCons (dCall 3 [] (m__law_expression 8) (aIo 0 (aCons (dSl (dVar 1) (oSome (dOp2 addD (dVar 3) (dC (.int 1)))) (oNone)) (aCons (dC (.int 3)) (aNil))))) (aNil)))) (aNil))))) (sRet (dVar 2)))
def m__law_definitions : SE → R RV := mFn n__law_definitions.length b__law_definitions
theorem d__law_definitions {P : Program} {w : World} {base : Heap} {M : Mx} (T : Tx M w) (C__law_expression : Cal P w base M "_law_expression" 11 3 (m__law_expression 8)) {X : Cx} {W : DL.WX} (C : CxF P w base M n__law_definitions (defScope s__law_definitions) 11 X W) : DSs X M W (defBody s__law_definitions) b__law_definitions :=
  (dss_cons (ds_v C.toCxD 2 (C.st l__law_definitions._law_result) (de_lst da_nil)) (dss_cons (ds_for C.ps C.cm (di_range1F C.toCxD g__law_definitions.range T.z_range (dv_cons (de_lenF C.toCxD g__law_definitions.len T.z_len (dv_cons (de_v C.toCxD 1 v__law_definitions._law_names_here) dv_nil)) dv_nil)) (dg_v C.toCxD 3 (C.st l__law_definitions._law_k)) (dss_one (ds_expr (de_lm C.toCxD 2 v__law_definitions._law_result lm_append (fun to t p q => pe_bm PySem.F.plainAttrs_list PySem.F.slot_list_append PySem.F.type_list_append mt_append p q) (da_cons (de_tup (da_cons (de_ix (de_v C.toCxD 1 v__law_definitions._law_names_here) (de_v C.toCxD 3 v__law_definitions._law_k) (fun _ _ => rfl) C.toCxD.hK) (da_cons (de_callC C.toCxD C__law_expression g__law_definitions._law_expression (by decide) (da_v C.toCxD 0 v__law_definitions._law_rng (da_cons (de_sl (de_v C.toCxD 1 v__law_definitions._law_names_here) (do_some (de_add (de_v C.toCxD 3 v__law_definitions._law_k) de_int C.toCxD.hK)) do_none C.toCxD.hK) (da_cons de_int da_nil)))) da_nil))) da_nil))))) (dss_one (ds_ret (de_v C.toCxD 2 v__law_definitions._law_result)))))
theorem ok__law_definitions {P : Program} {w : World} {base : Heap} {M : Mx} (T : Tx M w) (Dx : DefAt M "_law_definitions" s__law_definitions ["_law_rng", "_law_names_here"]) (C__law_expression : Cal P w base M "_law_expression" 11 3 (m__law_expression 8)) : FnOk P w M.K M.mg base (L2.CX P w) 12 Dx.f Dx.fd ["_law_rng", "_law_names_here"] (spD M 2 m__law_definitions) := by
  have h : ∀ (cdv : Value) (A : Around) (outer : List Env) (s : Shared) (H : Hp) (E : XK), Room 11 (A.deeper (envOfC "_law_definitions" (defScope s__law_definitions) s.heap.objs.size Dx.f cdv)) → DSs (cxOf (L2.CX P w) P w M.K M.mg base n__law_definitions "_law_definitions" (defScope s__law_definitions) Dx.f cdv A outer s H E) M (fun cls d _ H' => E cls d H') (defBody s__law_definitions) b__law_definitions := fun cdv A outer s H E hr => d__law_definitions T C__law_expression (cxF_of sc__law_definitions hr)
  exact fn_D Dx.fu sc__law_definitions h
def cal__law_definitions {P : Program} {w : World} {base : Heap} {M : Mx} (T : Tx M w) (Dx : DefAt M "_law_definitions" s__law_definitions ["_law_rng", "_law_names_here"]) (C__law_expression : Cal P w base M "_law_expression" 11 3 (m__law_expression 8)) : Cal P w base M "_law_definitions" 12 2 m__law_definitions := Dx.cal (ok__law_definitions (P := P) (base := base) T Dx C__law_expression)
abbrev s__law_any_fraction : Stmt := topS 31
abbrev n__law_any_fraction : List Str := ["_law_rng", "_law_most"]
theorem sc__law_any_fraction : FnScope n__law_any_fraction ["_law_rng", "_law_most"] (defScope s__law_any_fraction) := ⟨rfl, rfl, rfl, by decide +kernel, rfl, by decide +kernel, by decide +kernel⟩
structure V__law_any_fraction : Prop where
  _law_most : NameOk (defScope s__law_any_fraction) "_law_most"
  _law_rng : NameOk (defScope s__law_any_fraction) "_law_rng"
theorem v__law_any_fraction : V__law_any_fraction := ⟨⟨by unfold Vis; decide +kernel, by decide +kernel, by decide +kernel⟩, ⟨by unfold Vis; decide +kernel, by decide +kernel, by decide +kernel⟩⟩
structure G__law_any_fraction : Prop where
  _law_draw : GlOk (defScope s__law_any_fraction) "_law_draw"
  _law_lowest : GlOk (defScope s__law_any_fraction) "_law_lowest"
theorem g__law_any_fraction : G__law_any_fraction := ⟨⟨by decide +kernel, by decide +kernel, by decide +kernel⟩, ⟨by decide +kernel, by decide +kernel, by decide +kernel⟩⟩
def b__law_any_fraction : DM Fl := sRet (dCall 2 [] m__law_lowest (aCons (dOp2 subD (dCall 2 [] m__law_draw (aIo 0 (aCons (dOp2 addD (dOp2 mulD (dC (.int 2)) (dVar 1)) (dC (.int 1))) (aNil)))) (dVar 1)) (aCons (dOp2 addD (dC (.int 1)) (dCall 2 [] m__law_draw (aIo 0 (aCons (dVar 1) (aNil))))) (aNil))))
def m__law_any_fraction : SE → R RV := mFn n__law_any_fraction.length b__law_any_fraction
theorem d__law_any_fraction {P : Program} {w : World} {base : Heap} {M : Mx} (T : Tx M w) (C__law_lowest : Cal P w base M "_law_lowest" 1 2 m__law_lowest) (C__law_draw : Cal P w base M "_law_draw" 1 2 m__law_draw) {X : Cx} {W : DL.WX} (C : CxF P w base M n__law_any_fraction (defScope s__law_any_fraction) 1 X W) : DSs X M W (defBody s__law_any_fraction) b__law_any_fraction :=
  (dss_one (ds_ret (de_callC C.toCxD C__law_lowest g__law_any_fraction._law_lowest (by decide) (da_cons (de_sub (de_callC C.toCxD C__law_draw g__law_any_fraction._law_draw (by decide) (da_v C.toCxD 0 v__law_any_fraction._law_rng (da_cons (de_add (de_mul de_int (de_v C.toCxD 1 v__law_any_fraction._law_most)) de_int C.toCxD.hK) da_nil))) (de_v C.toCxD 1 v__law_any_fraction._law_most)) (da_cons (de_add de_int (de_callC C.toCxD C__law_draw g__law_any_fraction._law_draw (by decide) (da_v C.toCxD 0 v__law_any_fraction._law_rng (da_cons (de_v C.toCxD 1 v__law_any_fraction._law_most) da_nil))) C.toCxD.hK) da_nil)))))
theorem ok__law_any_fraction {P : Program} {w : World} {base : Heap} {M : Mx} (T : Tx M w) (Dx : DefAt M "_law_any_fraction" s__law_any_fraction ["_law_rng", "_law_most"]) (C__law_lowest : Cal P w base M "_law_lowest" 1 2 m__law_lowest) (C__law_draw : Cal P w base M "_law_draw" 1 2 m__law_draw) : FnOk P w M.K M.mg base (L2.CX P w) 2 Dx.f Dx.fd ["_law_rng", "_law_most"] (spD M 2 m__law_any_fraction) := by
  have h : ∀ (cdv : Value) (A : Around) (outer : List Env) (s : Shared) (H : Hp) (E : XK), Room 1 (A.deeper (envOfC "_law_any_fraction" (defScope s__law_any_fraction) s.heap.objs.size Dx.f cdv)) → DSs (cxOf (L2.CX P w) P w M.K M.mg base n__law_any_fraction "_law_any_fraction" (defScope s__law_any_fraction) Dx.f cdv A outer s H E) M (fun cls d _ H' => E cls d H') (defBody s__law_any_fraction) b__law_any_fraction := fun cdv A outer s H E hr => d__law_any_fraction T C__law_lowest C__law_draw (cxF_of sc__law_any_fraction hr)
  exact fn_D Dx.fu sc__law_any_fraction h
def cal__law_any_fraction {P : Program} {w : World} {base : Heap} {M : Mx} (T : Tx M w) (Dx : DefAt M "_law_any_fraction" s__law_any_fraction ["_law_rng", "_law_most"]) (C__law_lowest : Cal P w base M "_law_lowest" 1 2 m__law_lowest) (C__law_draw : Cal P w base M "_law_draw" 1 2 m__law_draw) : Cal P w base M "_law_any_fraction" 2 2 m__law_any_fraction := Dx.cal (ok__law_any_fraction (P := P) (base := base) T Dx C__law_lowest C__law_draw)
abbrev s__law_times : Stmt := topS 29
abbrev n__law_times : List Str := ["_law_one", "_law_other"]
theorem sc__law_times : FnScope n__law_times ["_law_one", "_law_other"] (defScope s__law_times) := ⟨rfl, rfl, rfl, by decide +kernel, rfl, by decide +kernel, by decide +kernel⟩
structure V__law_times : Prop where
  _law_one : NameOk (defScope s__law_times) "_law_one"
  _law_other : NameOk (defScope s__law_times) "_law_other"
theorem v__law_times : V__law_times := ⟨⟨by unfold Vis; decide +kernel, by decide +kernel, by decide +kernel⟩, ⟨by unfold Vis; decide +kernel, by decide +kernel, by decide +kernel⟩⟩
structure G__law_times : Prop where
  _law_lowest : GlOk (defScope s__law_times) "_law_lowest"
theorem g__law_times : G__law_times := ⟨⟨by decide +kernel, by decide +kernel, by decide +kernel⟩⟩
def b__law_times : DM Fl := sRet (dCall 2 [] m__law_lowest (aCons (dOp2 mulD (dOp2 ixD (dVar 0) (dC (.int 0))) (dOp2 ixD (dVar 1) (dC (.int 0)))) (aCons (dOp2 mulD (dOp2 ixD (dVar 0) (dC (.int 1))) (dOp2 ixD (dVar 1) (dC (.int 1)))) (aNil))))
def m__law_times : SE → R RV := mFn n__law_times.length b__law_times
theorem d__law_times {P : Program} {w : World} {base : Heap} {M : Mx} (T : Tx M w) (C__law_lowest : Cal P w base M "_law_lowest" 1 2 m__law_lowest) {X : Cx} {W : DL.WX} (C : CxF P w base M n__law_times (defScope s__law_times) 1 X W) : DSs X M W (defBody s__law_times) b__law_times :=
  (dss_one (ds_ret (de_callC C.toCxD C__law_lowest g__law_times._law_lowest (by decide) (da_cons (de_mul (de_ix (de_v C.toCxD 0 v__law_times._law_one) de_int (fun _ _ => rfl) C.toCxD.hK) (de_ix (de_v C.toCxD 1 v__law_times._law_other) de_int (fun _ _ => rfl) C.toCxD.hK)) (da_cons (de_mul (de_ix (de_v C.toCxD 0 v__law_times._law_one) de_int (fun _ _ => rfl) C.toCxD.hK) (de_ix (de_v C.toCxD 1 v__law_times._law_other) de_int (fun _ _ => rfl) C.toCxD.hK)) da_nil)))))
theorem ok__law_times {P : Program} {w : World} {base : Heap} {M : Mx} (T : Tx M w) (Dx : DefAt M "_law_times" s__law_times ["_law_one", "_law_other"]) (C__law_lowest : Cal P w base M "_law_lowest" 1 2 m__law_lowest) : FnOk P w M.K M.mg base (L2.CX P w) 2 Dx.f Dx.fd ["_law_one", "_law_other"] (spD M 2 m__law_times) := by
  have h : ∀ (cdv : Value) (A : Around) (outer : List Env) (s : Shared) (H : Hp) (E : XK), Room 1 (A.deeper (envOfC "_law_times" (defScope s__law_times) s.heap.objs.size Dx.f cdv)) → DSs (cxOf (L2.CX P w) P w M.K M.mg base n__law_times "_law_times" (defScope s__law_times) Dx.f cdv A outer s H E) M (fun cls d _ H' => E cls d H') (defBody s__law_times) b__law_times := fun cdv A outer s H E hr => d__law_times T C__law_lowest (cxF_of sc__law_times hr)
  exact fn_D Dx.fu sc__law_times h
def cal__law_times {P : Program} {w : World} {base : Heap} {M : Mx} (T : Tx M w) (Dx : DefAt M "_law_times" s__law_times ["_law_one", "_law_other"]) (C__law_lowest : Cal P w base M "_law_lowest" 1 2 m__law_lowest) : Cal P w base M "_law_times" 2 2 m__law_times := Dx.cal (ok__law_times (P := P) (base := base) T Dx C__law_lowest)
abbrev s__law_plus : Stmt := topS 27
abbrev n__law_plus : List Str := ["_law_one", "_law_other"]
theorem sc__law_plus : FnScope n__law_plus ["_law_one", "_law_other"] (defScope s__law_plus) := ⟨rfl, rfl, rfl, by decide +kernel, rfl, by decide +kernel, by decide +kernel⟩
structure V__law_plus : Prop where
  _law_one : NameOk (defScope s__law_plus) "_law_one"
  _law_other : NameOk (defScope s__law_plus) "_law_other"
theorem v__law_plus : V__law_plus := ⟨⟨by unfold Vis; decide +kernel, by decide +kernel, by decide +kernel⟩, ⟨by unfold Vis; decide +kernel, by decide +kernel, by decide +kernel⟩⟩
structure G__law_plus : Prop where
  _law_lowest : GlOk (defScope s__law_plus) "_law_lowest"
theorem g__law_plus : G__law_plus := ⟨⟨by decide +kernel, by decide +kernel, by decide +kernel⟩⟩
def b__law_plus : DM Fl := sRet (dCall 2 [] m__law_lowest (aCons (dOp2 addD (dOp2 mulD (dOp2 ixD (dVar 0) (dC (.int 0))) (dOp2 ixD (dVar 1) (dC (.int 1)))) (dOp2 mulD (dOp2 ixD (dVar 1) (dC (.int 0))) (dOp2 ixD (dVar 0) (dC (.int 1))))) (aCons (dOp2 mulD (dOp2 ixD (dVar 0) (dC (.int 1))) (dOp2 ixD (dVar 1) (dC (.int 1)))) (aNil))))
def m__law_plus : SE → R RV := mFn n__law_plus.length b__law_plus
theorem d__law_plus {P : Program} {w : World} {base : Heap} {M : Mx} (T : Tx M w) (C__law_lowest : Cal P w base M "_law_lowest" 1 2 m__law_lowest) {X : Cx} {W : DL.WX} (C : CxF P w base M n__law_plus (defScope s__law_plus) 1 X W) : DSs X M W (defBody s__law_plus) b__law_plus :=
  (dss_one (ds_ret (de_callC C.toCxD C__law_lowest g__law_plus._law_lowest (by decide) (da_cons (de_add (de_mul (de_ix (de_v C.toCxD 0 v__law_plus._law_one) de_int (fun _ _ => rfl) C.toCxD.hK) (de_ix (de_v C.toCxD 1 v__law_plus._law_other) de_int (fun _ _ => rfl) C.toCxD.hK)) (de_mul (de_ix (de_v C.toCxD 1 v__law_plus._law_other) de_int (fun _ _ => rfl) C.toCxD.hK) (de_ix (de_v C.toCxD 0 v__law_plus._law_one) de_int (fun _ _ => rfl) C.toCxD.hK)) C.toCxD.hK) (da_cons (de_mul (de_ix (de_v C.toCxD 0 v__law_plus._law_one) de_int (fun _ _ => rfl) C.toCxD.hK) (de_ix (de_v C.toCxD 1 v__law_plus._law_other) de_int (fun _ _ => rfl) C.toCxD.hK)) da_nil)))))
theorem ok__law_plus {P : Program} {w : World} {base : Heap} {M : Mx} (T : Tx M w) (Dx : DefAt M "_law_plus" s__law_plus ["_law_one", "_law_other"]) (C__law_lowest : Cal P w base M "_law_lowest" 1 2 m__law_lowest) : FnOk P w M.K M.mg base (L2.CX P w) 2 Dx.f Dx.fd ["_law_one", "_law_other"] (spD M 2 m__law_plus) := by
  have h : ∀ (cdv : Value) (A : Around) (outer : List Env) (s : Shared) (H : Hp) (E : XK), Room 1 (A.deeper (envOfC "_law_plus" (defScope s__law_plus) s.heap.objs.size Dx.f cdv)) → DSs (cxOf (L2.CX P w) P w M.K M.mg base n__law_plus "_law_plus" (defScope s__law_plus) Dx.f cdv A outer s H E) M (fun cls d _ H' => E cls d H') (defBody s__law_plus) b__law_plus := fun cdv A outer s H E hr => d__law_plus T C__law_lowest (cxF_of sc__law_plus hr)
  exact fn_D Dx.fu sc__law_plus h
def cal__law_plus {P : Program} {w : World} {base : Heap} {M : Mx} (T : Tx M w) (Dx : DefAt M "_law_plus" s__law_plus ["_law_one", "_law_other"]) (C__law_lowest : Cal P w base M "_law_lowest" 1 2 m__law_lowest) : Cal P w base M "_law_plus" 2 2 m__law_plus := Dx.cal (ok__law_plus (P := P) (base := base) T Dx C__law_lowest)
abbrev s__law_minus : Stmt := topS 28
abbrev n__law_minus : List Str := ["_law_one", "_law_other"]
theorem sc__law_minus : FnScope n__law_minus ["_law_one", "_law_other"] (defScope s__law_minus) := ⟨rfl, rfl, rfl, by decide +kernel, rfl, by decide +kernel, by decide +kernel⟩
structure V__law_minus : Prop where
  _law_one : NameOk (defScope s__law_minus) "_law_one"
  _law_other : NameOk (defScope s__law_minus) "_law_other"
theorem v__law_minus : V__law_minus := ⟨⟨by unfold Vis; decide +kernel, by decide +kernel, by decide +kernel⟩, ⟨by unfold Vis; decide +kernel, by decide +kernel, by decide +kernel⟩⟩
structure G__law_minus : Prop where
  _law_lowest : GlOk (defScope s__law_minus) "_law_lowest"
theorem g__law_minus : G__law_minus := ⟨⟨by decide +kernel, by decide +kernel, by decide +kernel⟩⟩
def b__law_minus : DM Fl := sRet (dCall 2 [] m__law_lowest (aCons (dOp2 subD (dOp2 mulD (dOp2 ixD (dVar 0) (dC (.int 0))) (dOp2 ixD (dVar 1) (dC (.int 1)))) (dOp2 mulD (dOp2 ixD (dVar 1) (dC (.int 0))) (dOp2 ixD (dVar 0) (dC (.int 1))))) (aCons (dOp2 mulD (dOp2 ixD (dVar 0) (dC (.int 1))) (dOp2 ixD (dVar 1) (dC (.int 1)))) (aNil))))
def m__law_minus : SE → R RV := mFn n__law_minus.length b__law_minus
theorem d__law_minus {P : Program} {w : World} {base : Heap} {M : Mx} (T : Tx M w) (C__law_lowest : Cal P w base M "_law_lowest" 1 2 m__law_lowest) {X : Cx} {W : DL.WX} (C : CxF P w base M n__law_minus (defScope s__law_minus) 1 X W) : DSs X M W (defBody s__law_minus) b__law_minus :=
  (dss_one (ds_ret (de_callC C.toCxD C__law_lowest g__law_minus._law_lowest (by decide) (da_cons (de_sub (de_mul (de_ix (de_v C.toCxD 0 v__law_minus._law_one) de_int (fun _ _ => rfl) C.toCxD.hK) (de_ix (de_v C.toCxD 1 v__law_minus._law_other) de_int (fun _ _ => rfl) C.toCxD.hK)) (de_mul (de_ix (de_v C.toCxD 1 v__law_minus._law_other) de_int (fun _ _ => rfl) C.toCxD.hK) (de_ix (de_v C.toCxD 0 v__law_minus._law_one) de_int (fun _ _ => rfl) C.toCxD.hK))) (da_cons (de_mul (de_ix (de_v C.toCxD 0 v__law_minus._law_one) de_int (fun _ _ => rfl) C.toCxD.hK) (de_ix (de_v C.toCxD 1 v__law_minus._law_other) de_int (fun _ _ => rfl) C.toCxD.hK)) da_nil)))))
theorem ok__law_minus {P : Program} {w : World} {base : Heap} {M : Mx} (T : Tx M w) (Dx : DefAt M "_law_minus" s__law_minus ["_law_one", "_law_other"]) (C__law_lowest : Cal P w base M "_law_lowest" 1 2 m__law_lowest) : FnOk P w M.K M.mg base (L2.CX P w) 2 Dx.f Dx.fd ["_law_one", "_law_other"] (spD M 2 m__law_minus) := by
  have h : ∀ (cdv : Value) (A : Around) (outer : List Env) (s : Shared) (H : Hp) (E : XK), Room 1 (A.deeper (envOfC "_law_minus" (defScope s__law_minus) s.heap.objs.size Dx.f cdv)) → DSs (cxOf (L2.CX P w) P w M.K M.mg base n__law_minus "_law_minus" (defScope s__law_minus) Dx.f cdv A outer s H E) M (fun cls d _ H' => E cls d H') (defBody s__law_minus) b__law_minus := fun cdv A outer s H E hr => d__law_minus T C__law_lowest (cxF_of sc__law_minus hr)
  exact fn_D Dx.fu sc__law_minus h
def cal__law_minus {P : Program} {w : World} {base : Heap} {M : Mx} (T : Tx M w) (Dx : DefAt M "_law_minus" s__law_minus ["_law_one", "_law_other"]) (C__law_lowest : Cal P w base M "_law_lowest" 1 2 m__law_lowest) : Cal P w base M "_law_minus" 2 2 m__law_minus := Dx.cal (ok__law_minus (P := P) (base := base) T Dx C__law_lowest)
abbrev s__law_less : Stmt := topS 30
abbrev n__law_less : List Str := ["_law_one", "_law_other"]
theorem sc__law_less : FnScope n__law_less ["_law_one", "_law_other"] (defScope s__law_less) := ⟨rfl, rfl, rfl, by decide +kernel, rfl, by decide +kernel, by decide +kernel⟩
structure V__law_less : Prop where
  _law_one : NameOk (defScope s__law_less) "_law_one"
  _law_other : NameOk (defScope s__law_less) "_law_other"
theorem v__law_less : V__law_less := ⟨⟨by unfold Vis; decide +kernel, by decide +kernel, by decide +kernel⟩, ⟨by unfold Vis; decide +kernel, by decide +kernel, by decide +kernel⟩⟩
def b__law_less : DM Fl := sRet (dOp2 ltD (dOp2 mulD (dOp2 ixD (dVar 0) (dC (.int 0))) (dOp2 ixD (dVar 1) (dC (.int 1)))) (dOp2 mulD (dOp2 ixD (dVar 1) (dC (.int 0))) (dOp2 ixD (dVar 0) (dC (.int 1)))))
def m__law_less : SE → R RV := mFn n__law_less.length b__law_less
theorem d__law_less {P : Program} {w : World} {base : Heap} {M : Mx} (T : Tx M w)  {X : Cx} {W : DL.WX} (C : CxF P w base M n__law_less (defScope s__law_less) 0 X W) : DSs X M W (defBody s__law_less) b__law_less :=
  (dss_one (ds_ret (de_lt (de_mul (de_ix (de_v C.toCxD 0 v__law_less._law_one) de_int (fun _ _ => rfl) C.toCxD.hK) (de_ix (de_v C.toCxD 1 v__law_less._law_other) de_int (fun _ _ => rfl) C.toCxD.hK)) (de_mul (de_ix (de_v C.toCxD 1 v__law_less._law_other) de_int (fun _ _ => rfl) C.toCxD.hK) (de_ix (de_v C.toCxD 0 v__law_less._law_one) de_int (fun _ _ => rfl) C.toCxD.hK)))))
theorem ok__law_less {P : Program} {w : World} {base : Heap} {M : Mx} (T : Tx M w) (Dx : DefAt M "_law_less" s__law_less ["_law_one", "_law_other"])  : FnOk P w M.K M.mg base (L2.CX P w) 1 Dx.f Dx.fd ["_law_one", "_law_other"] (spD M 2 m__law_less) := by
  have h : ∀ (cdv : Value) (A : Around) (outer : List Env) (s : Shared) (H : Hp) (E : XK), Room 0 (A.deeper (envOfC "_law_less" (defScope s__law_less) s.heap.objs.size Dx.f cdv)) → DSs (cxOf (L2.CX P w) P w M.K M.mg base n__law_less "_law_less" (defScope s__law_less) Dx.f cdv A outer s H E) M (fun cls d _ H' => E cls d H') (defBody s__law_less) b__law_less := fun cdv A outer s H E hr => d__law_less T  (cxF_of sc__law_less hr)
  exact fn_D Dx.fu sc__law_less h
def cal__law_less {P : Program} {w : World} {base : Heap} {M : Mx} (T : Tx M w) (Dx : DefAt M "_law_less" s__law_less ["_law_one", "_law_other"])  : Cal P w base M "_law_less" 1 2 m__law_less := Dx.cal (ok__law_less (P := P) (base := base) T Dx )
abbrev s__law_evaluated : Stmt := topS 36
abbrev n__law_evaluated : List Str := ["_law_expression_here", "_law_number", "_law_table", "_law_word", "_law_back", "_law_front"]
theorem sc__law_evaluated : FnScope n__law_evaluated ["_law_expression_here", "_law_number", "_law_table"] (defScope s__law_evaluated) := ⟨rfl, rfl, rfl, by decide +kernel, rfl, by decide +kernel, by decide +kernel⟩
structure V__law_evaluated : Prop where
  _law_expression_here : NameOk (defScope s__law_evaluated) "_law_expression_here"
  _law_word : NameOk (defScope s__law_evaluated) "_law_word"
  _law_number : NameOk (defScope s__law_evaluated) "_law_number"
  _law_table : NameOk (defScope s__law_evaluated) "_law_table"
  _law_back : NameOk (defScope s__law_evaluated) "_law_back"
  _law_front : NameOk (defScope s__law_evaluated) "_law_front"
theorem v__law_evaluated : V__law_evaluated := ⟨⟨by unfold Vis; decide +kernel, by decide +kernel, by decide +kernel⟩, ⟨by unfold Vis; decide +kernel, by decide +kernel, by decide +kernel⟩, ⟨by unfold Vis; decide +kernel, by decide +kernel, by decide +kernel⟩, ⟨by unfold Vis; decide +kernel, by decide +kernel, by decide +kernel⟩, ⟨by unfold Vis; decide +kernel, by decide +kernel, by decide +kernel⟩, ⟨by unfold Vis; decide +kernel, by decide +kernel, by decide +kernel⟩⟩
structure L__law_evaluated : Prop where
  _law_word : L2.Loc (defScope s__law_evaluated) "_law_word"
  _law_back : L2.Loc (defScope s__law_evaluated) "_law_back"
  _law_front : L2.Loc (defScope s__law_evaluated) "_law_front"
theorem l__law_evaluated : L__law_evaluated := ⟨by unfold L2.Loc; decide +kernel, by unfold L2.Loc; decide +kernel, by unfold L2.Loc; decide +kernel⟩
structure G__law_evaluated : Prop where
  _law_evaluated : GlOk (defScope s__law_evaluated) "_law_evaluated"
  _law_times : GlOk (defScope s__law_evaluated) "_law_times"
  abs : GlOk (defScope s__law_evaluated) "abs"
  _law_plus : GlOk (defScope s__law_evaluated) "_law_plus"
  _law_minus : GlOk (defScope s__law_evaluated) "_law_minus"
  _law_less : GlOk (defScope s__law_evaluated) "_law_less"
theorem g__law_evaluated : G__law_evaluated := ⟨⟨by decide +kernel, by decide +kernel, by decide +kernel⟩, ⟨by decide +kernel, by decide +kernel, by decide +kernel⟩, ⟨by decide +kernel, by decide +kernel, by decide +kernel⟩, ⟨by decide +kernel, by decide +kernel, by decide +kernel⟩, ⟨by decide +kernel, by decide +kernel, by decide +kernel⟩, ⟨by decide +kernel, by decide +kernel, by decide +kernel⟩⟩
def b__law_evaluated (m : SE → R RV) : DM Fl := sSeq (sSet 3 (dOp2 ixD (dVar 0) (dC (.int 0)))) (sSeq (sIf (fun ρ => (dOp2 eqD (dVar 3) (dC (.str "x")) ρ).bind asB) (sRet (dVar 1)) (sPass)) (sSeq (sIf (fun ρ => (dOp2 eqD (dVar 3) (dC (.str "number")) ρ).bind asB) (sRet (dOp2 ixD (dVar 0) (dC (.int 1)))) (sPass)) (sSeq (sSet 4 (dCall 3 [] m (aCons (dOp2 ixD (dVar 0) (dOp1 negD (dC (.int 1)))) (aCons (dVar 1) (aCons (dVar 2) (aNil)))))) (sSeq (sIf (fun ρ => (dOp2 eqD (dVar 3) (dC (.str "call")) ρ).bind asB) (sRet (dCall 3 [] m (aCons (dOp2 xgetD (dVar 2) (dOp2 ixD (dVar 0) (dC (.int 1)))) (aCons (dVar 4) (aCons (dVar 2) (aNil)))))) (sPass)) (sSeq (sIf (fun ρ => (dOp2 eqD (dVar 3) (dC (.str "multiple")) ρ).bind asB) (sRet (dCall 2 [] m__law_times (aCons (dOp2 ixD (dVar 0) (dC (.int 1))) (aCons (dVar 4) (aNil))))) (sPass)) (sSeq (sIf (fun ρ => (dOp2 eqD (dVar 3) (dC (.str "abs")) ρ).bind asB) (sRet (dTup (aCons (dCb gAbs (vCons (dOp2 ixD (dVar 4) (dC (.int 0))) (vNil))) (aCons (dOp2 ixD (dVar 4) (dC (.int 1))) (aNil))))) (sPass)) (sSeq (sSet 5 (dCall 3 [] m (aCons (dOp2 ixD (dVar 0) (dC (.int 1))) (aCons (dVar 1) (aCons (dVar 2) (aNil)))))) (sSeq (sIf (fun ρ => (dOp2 eqD (dVar 3) (dC (.str "add")) ρ).bind asB) (sRet (dCall 2 [] m__law_plus (aCons (dVar 5) (aCons (dVar 4) (aNil))))) (sPass)) (sSeq (sIf (fun ρ => (dOp2 eqD (dVar 3) (dC (.str "subtract")) ρ).bind asB) (sRet (dCall 2 [] m__law_minus (aCons (dVar 5) (aCons (dVar 4) (aNil))))) (sPass)) (sSeq (sIf (fun ρ => (dOp2 eqD (dVar 3) (dC (.str "max")) ρ).bind asB) (sRet (dIf (fun ρ => ((dCall 2 [] m__law_less (aCons (dVar 5) (aCons (dVar 4) (aNil)))) ρ).bind asB) (dVar 4) (dVar 5))) (sPass)) (sRet (dIf (fun ρ => ((dCall 2 [] m__law_less (aCons (dVar 5) (aCons (dVar 4) (aNil)))) ρ).bind asB) (dVar 5) (dVar 4)))))))))))))
def m__law_evaluated : Nat → SE → R RV
  | 0 => mBad
  | n + 1 => mFn n__law_evaluated.length (b__law_evaluated (m__law_evaluated n))
theorem d__law_evaluated {P : Program} {w : World} {base : Heap} {M : Mx} (T : Tx M w) (C__law_times : Cal P w base M "_law_times" 2 2 m__law_times) (C__law_plus : Cal P w base M "_law_plus" 2 2 m__law_plus) (C__law_minus : Cal P w base M "_law_minus" 2 2 m__law_minus) (C__law_less : Cal P w base M "_law_less" 1 2 m__law_less) (k : Nat) (hk : 2 ≤ k) (m : SE → R RV) (C__law_evaluated : Cal P w base M "_law_evaluated" k 3 m) {X : Cx} {W : DL.WX} (C : CxF P w base M n__law_evaluated (defScope s__law_evaluated) k X W) : DSs X M W (defBody s__law_evaluated) (b__law_evaluated m) :=
  (dss_cons (ds_v C.toCxD 3 (C.st l__law_evaluated._law_word) (de_ix (de_v C.toCxD 0 v__law_evaluated._law_expression_here) de_int (fun _ _ => rfl) C.toCxD.hK)) (dss_cons (ds_if (dt_eq (de_v C.toCxD 3 v__law_evaluated._law_word) de_str C.toCxD.u64 C.toCxD.hK) (dss_one (ds_ret (de_v C.toCxD 1 v__law_evaluated._law_number))) dss_nil) (dss_cons (ds_if (dt_eq (de_v C.toCxD 3 v__law_evaluated._law_word) de_str C.toCxD.u64 C.toCxD.hK) (dss_one (ds_ret (de_ix (de_v C.toCxD 0 v__law_evaluated._law_expression_here) de_int (fun _ _ => rfl) C.toCxD.hK))) dss_nil) (dss_cons (ds_v C.toCxD 4 (C.st l__law_evaluated._law_back) (de_callC C.toCxD C__law_evaluated g__law_evaluated._law_evaluated (by omega) (da_cons (de_ix (de_v C.toCxD 0 v__law_evaluated._law_expression_here) (de_neg de_int) (fun _ _ => rfl) C.toCxD.hK) (da_cons (de_v C.toCxD 1 v__law_evaluated._law_number) (da_cons (de_v C.toCxD 2 v__law_evaluated._law_table) da_nil))))) (dss_cons (ds_if (dt_eq (de_v C.toCxD 3 v__law_evaluated._law_word) de_str C.toCxD.u64 C.toCxD.hK) (dss_one (ds_ret (de_callC C.toCxD C__law_evaluated g__law_evaluated._law_evaluated (by omega) (da_cons (de_xget C.toCxD T.hw (de_v C.toCxD 2 v__law_evaluated._law_table) (de_ix (de_v C.toCxD 0 v__law_evaluated._law_expression_here) de_int (fun _ _ => rfl) C.toCxD.hK)) (da_cons (de_v C.toCxD 4 v__law_evaluated._law_back) (da_cons (de_v C.toCxD 2 v__law_evaluated._law_table) da_nil)))))) dss_nil) (dss_cons (ds_if (dt_eq (de_v C.toCxD 3 v__law_evaluated._law_word) de_str C.toCxD.u64 C.toCxD.hK) (dss_one (ds_ret (de_callC C.toCxD C__law_times g__law_evaluated._law_times (by omega) (da_cons (de_ix (de_v C.toCxD 0 v__law_evaluated._law_expression_here) de_int (fun _ _ => rfl) C.toCxD.hK) (da_cons (de_v C.toCxD 4 v__law_evaluated._law_back) da_nil))))) dss_nil) (dss_cons (ds_if (dt_eq (de_v C.toCxD 3 v__law_evaluated._law_word) de_str C.toCxD.u64 C.toCxD.hK) (dss_one (ds_ret (de_tup (da_cons (de_absF C.toCxD g__law_evaluated.abs T.z_abs (dv_cons (de_ix (de_v C.toCxD 4 v__law_evaluated._law_back) de_int (fun _ _ => rfl) C.toCxD.hK) dv_nil)) (da_cons (de_ix (de_v C.toCxD 4 v__law_evaluated._law_back) de_int (fun _ _ => rfl) C.toCxD.hK) da_nil))))) dss_nil) (dss_cons (ds_v C.toCxD 5 (C.st l__law_evaluated._law_front) (de_callC C.toCxD C__law_evaluated g__law_evaluated._law_evaluated (by omega) (da_cons (de_ix (de_v C.toCxD 0 v__law_evaluated._law_expression_here) de_int (fun _ _ => rfl) C.toCxD.hK) (da_cons (de_v C.toCxD 1 v__law_evaluated._law_number) (da_cons (de_v C.toCxD 2 v__law_evaluated._law_table) da_nil))))) (dss_cons (ds_if (dt_eq (de_v C.toCxD 3 v__law_evaluated._law_word) de_str C.toCxD.u64 C.toCxD.hK) (dss_one (ds_ret (de_callC C.toCxD C__law_plus g__law_evaluated._law_plus (by omega) (da_cons (de_v C.toCxD 5 v__law_evaluated._law_front) (da_cons (de_v C.toCxD 4 v__law_evaluated._law_back) da_nil))))) dss_nil) (dss_cons (ds_if (dt_eq (de_v C.toCxD 3 v__law_evaluated._law_word) de_str C.toCxD.u64 C.toCxD.hK) (dss_one (ds_ret (de_callC C.toCxD C__law_minus g__law_evaluated._law_minus (by omega) (da_cons (de_v C.toCxD 5 v__law_evaluated._law_front) (da_cons (de_v C.toCxD 4 v__law_evaluated._law_back) da_nil))))) dss_nil) (dss_cons (ds_if (dt_eq (de_v C.toCxD 3 v__law_evaluated._law_word) de_str C.toCxD.u64 C.toCxD.hK) (dss_one (ds_ret (de_if (dt_val (de_callC C.toCxD C__law_less g__law_evaluated._law_less (by omega) (da_cons (de_v C.toCxD 5 v__law_evaluated._law_front) (da_cons (de_v C.toCxD 4 v__law_evaluated._law_back) da_nil)))) (de_v C.toCxD 4 v__law_evaluated._law_back) (de_v C.toCxD 5 v__law_evaluated._law_front)))) dss_nil) (dss_one (ds_ret (de_if (dt_val (de_callC C.toCxD C__law_less g__law_evaluated._law_less (by omega) (da_cons (de_v C.toCxD 5 v__law_evaluated._law_front) (da_cons (de_v C.toCxD 4 v__law_evaluated._law_back) da_nil)))) (de_v C.toCxD 5 v__law_evaluated._law_front) (de_v C.toCxD 4 v__law_evaluated._law_back)))))))))))))))
theorem ok__law_evaluated {P : Program} {w : World} {base : Heap} {M : Mx} (T : Tx M w) (Dx : DefAt M "_law_evaluated" s__law_evaluated ["_law_expression_here", "_law_number", "_law_table"]) (C__law_times : Cal P w base M "_law_times" 2 2 m__law_times) (C__law_plus : Cal P w base M "_law_plus" 2 2 m__law_plus) (C__law_minus : Cal P w base M "_law_minus" 2 2 m__law_minus) (C__law_less : Cal P w base M "_law_less" 1 2 m__law_less) : ∀ n : Nat, FnOk P w M.K M.mg base (L2.CX P w) (2 + n) Dx.f Dx.fd ["_law_expression_here", "_law_number", "_law_table"] (spD M 3 (m__law_evaluated n))
  | 0 => fn_bad
  | n + 1 => by
    have ih := ok__law_evaluated (P := P) (base := base) T Dx C__law_times C__law_plus C__law_minus C__law_less n
    have h : ∀ (cdv : Value) (A : Around) (outer : List Env) (s : Shared) (H : Hp) (E : XK), Room (2 + n) (A.deeper (envOfC "_law_evaluated" (defScope s__law_evaluated) s.heap.objs.size Dx.f cdv)) → DSs (cxOf (L2.CX P w) P w M.K M.mg base n__law_evaluated "_law_evaluated" (defScope s__law_evaluated) Dx.f cdv A outer s H E) M (fun cls d _ H' => E cls d H') (defBody s__law_evaluated) (b__law_evaluated (m__law_evaluated n)) := fun cdv A outer s H E hr => d__law_evaluated T C__law_times C__law_plus C__law_minus C__law_less (2 + n) (by omega) (m__law_evaluated n) (Dx.cal ih) (cxF_of sc__law_evaluated hr)
    exact fn_D Dx.fu sc__law_evaluated h
def cal__law_evaluated {P : Program} {w : World} {base : Heap} {M : Mx} (T : Tx M w) (Dx : DefAt M "_law_evaluated" s__law_evaluated ["_law_expression_here", "_law_number", "_law_table"]) (C__law_times : Cal P w base M "_law_times" 2 2 m__law_times) (C__law_plus : Cal P w base M "_law_plus" 2 2 m__law_plus) (C__law_minus : Cal P w base M "_law_minus" 2 2 m__law_minus) (C__law_less : Cal P w base M "_law_less" 1 2 m__law_less) : Cal P w base M "_law_evaluated" 14 3 (m__law_evaluated 12) := Dx.cal (ok__law_evaluated (P := P) (base := base) T Dx C__law_times C__law_plus C__law_minus C__law_less 12)
abbrev s__law_same : Stmt := topS 25
abbrev n__law_same : List Str := ["_law_found", "_law_due", "_law_one", "_law_other"]
theorem sc__law_same : FnScope n__law_same ["_law_found", "_law_due"] (defScope s__law_same) := ⟨rfl, rfl, rfl, by decide +kernel, rfl, by decide +kernel, by decide +kernel⟩
structure V__law_same : Prop where
  _law_due : NameOk (defScope s__law_same) "_law_due"
  _law_found : NameOk (defScope s__law_same) "_law_found"
theorem v__law_same : V__law_same := ⟨⟨by unfold Vis; decide +kernel, by decide +kernel, by decide +kernel⟩, ⟨by unfold Vis; decide +kernel, by decide +kernel, by decide +kernel⟩⟩
structure G__law_same : Prop where
  isinstance : GlOk (defScope s__law_same) "isinstance"
  list : GlOk (defScope s__law_same) "list"
  tuple : GlOk (defScope s__law_same) "tuple"
  len : GlOk (defScope s__law_same) "len"
  zip : GlOk (defScope s__law_same) "zip"
  all : GlOk (defScope s__law_same) "all"
  bool : GlOk (defScope s__law_same) "bool"
  int : GlOk (defScope s__law_same) "int"
  str : GlOk (defScope s__law_same) "str"
theorem g__law_same : G__law_same := ⟨⟨by decide +kernel, by decide +kernel, by decide +kernel⟩, ⟨by decide +kernel, by decide +kernel, by decide +kernel⟩, ⟨by decide +kernel, by decide +kernel, by decide +kernel⟩, ⟨by decide +kernel, by decide +kernel, by decide +kernel⟩, ⟨by decide +kernel, by decide +kernel, by decide +kernel⟩, ⟨by decide +kernel, by decide +kernel, by decide +kernel⟩, ⟨by decide +kernel, by decide +kernel, by decide +kernel⟩, ⟨by decide +kernel, by decide +kernel, by decide +kernel⟩, ⟨by decide +kernel, by decide +kernel, by decide +kernel⟩⟩
def b__law_same (m : SE → R RV) : DM Fl := sSeq (sIf (dOrT (fun ρ => (dOp2 (isND false) (dVar 1) (dC .non) ρ).bind asB) (fun ρ => (dOp2 (isND false) (dVar 0) (dC .non) ρ).bind asB)) (sRet (dAnd (dOp2 (isND false) (dVar 0) (dC .non)) (dOp2 (isND false) (dVar 1) (dC .non)))) (sPass)) (sSeq (sIf (fun ρ => ((dOp1 (isiD2 "list" "tuple") (dVar 1)) ρ).bind asB) (sSeq (sIf (dOrT (fun ρ => (dOp2 neD (dOp1 (isiD "list") (dVar 0)) (dOp1 (isiD "list") (dVar 1)) ρ).bind asB) (fun ρ => (dOp2 neD (dOp1 (isiD "tuple") (dVar 0)) (dOp1 (isiD "tuple") (dVar 1)) ρ).bind asB)) (sRet (dC (.bl false))) (sPass)) (sRet (dAnd (dOp2 eqD (dCb gLen (vCons (dVar 0) (vNil))) (dCb gLen (vCons (dVar 1) (vNil)))) (dCb gAll (vCons (dLc [2, 3] (iZipU (aCons (dVar 0) (aCons (dVar 1) (aNil)))) (tgTup 2 (tgCons (tgName 2) (tgCons (tgName 3) (tgNil)))) (tYesD) (dCall 2 [] m (aCons (dVar 2) (aCons (dVar 3) (aNil))))) (vNil)))))) (sPass)) (sSeq (sIf (dOrT (fun ρ => (dOp2 neD (dOp1 (isiD "bool") (dVar 0)) (dOp1 (isiD "bool") (dVar 1)) ρ).bind asB) (fun ρ => (dOp2 neD (dOp1 (isiD "int") (dVar 0)) (dOp1 (isiD "int") (dVar 1)) ρ).bind asB)) (sRet (dC (.bl false))) (sPass)) (sRet (dAnd (dOp2 eqD (dOp1 (isiD "str") (dVar 0)) (dOp1 (isiD "str") (dVar 1))) (dOp2 eqD (dVar 0) (dVar 1))))))
def m__law_same : Nat → SE → R RV
  | 0 => mBad
  | n + 1 => mFn n__law_same.length (b__law_same (m__law_same n))
theorem d__law_same {P : Program} {w : World} {base : Heap} {M : Mx} (T : Tx M w)  (k : Nat) (hk : 0 ≤ k) (m : SE → R RV) (C__law_same : Cal P w base M "_law_same" k 2 m) {X : Cx} {W : DL.WX} (C : CxF P w base M n__law_same (defScope s__law_same) k X W) : DSs X M W (defBody s__law_same) (b__law_same m) :=
  (dss_cons (ds_if (dt_w (dw_or (dt_isN (de_v C.toCxD 1 v__law_same._law_due) de_non) (dw_or1 (dt_isN (de_v C.toCxD 0 v__law_same._law_found) de_non)))) (dss_one (ds_ret (de_and (de_isN (de_v C.toCxD 0 v__law_same._law_found) de_non) (de_one (de_isN (de_v C.toCxD 1 v__law_same._law_due) de_non))))) dss_nil) (dss_cons (ds_if (dt_val (de_isi2F C.toCxD g__law_same.isinstance T.z_isinstance g__law_same.list T.z_list boot_list kit_list g__law_same.tuple T.z_tuple boot_tuple kit_tuple (de_v C.toCxD 1 v__law_same._law_due))) (dss_cons (ds_if (dt_w (dw_or (dt_ne (de_isiF C.toCxD g__law_same.isinstance T.z_isinstance g__law_same.list T.z_list boot_list kit_list (de_v C.toCxD 0 v__law_same._law_found)) (de_isiF C.toCxD g__law_same.isinstance T.z_isinstance g__law_same.list T.z_list boot_list kit_list (de_v C.toCxD 1 v__law_same._law_due)) C.toCxD.u64 C.toCxD.hK) (dw_or1 (dt_ne (de_isiF C.toCxD g__law_same.isinstance T.z_isinstance g__law_same.tuple T.z_tuple boot_tuple kit_tuple (de_v C.toCxD 0 v__law_same._law_found)) (de_isiF C.toCxD g__law_same.isinstance T.z_isinstance g__law_same.tuple T.z_tuple boot_tuple kit_tuple (de_v C.toCxD 1 v__law_same._law_due)) C.toCxD.u64 C.toCxD.hK)))) (dss_one (ds_ret de_bl)) dss_nil) (dss_one (ds_ret (de_and (de_eq (de_lenF C.toCxD g__law_same.len T.z_len (dv_cons (de_v C.toCxD 0 v__law_same._law_found) dv_nil)) (de_lenF C.toCxD g__law_same.len T.z_len (dv_cons (de_v C.toCxD 1 v__law_same._law_due) dv_nil)) C.toCxD.u64 C.toCxD.hK) (de_one (de_allF C.toCxD g__law_same.all T.z_all (dv_cons (de_lcF C.toCxD [("_law_one", 2), ("_law_other", 3)] (blkOk_by (by decide +kernel)) (tgTup_ex (tgCons_ex tgName_ex (tgCons_ex tgName_ex tgNil_ex))) (di_zipU C.toCxD g__law_same.zip T.z_zip (da_cons (de_v C.toCxD 0 v__law_same._law_found) (da_cons (de_v C.toCxD 1 v__law_same._law_due) da_nil))) (fun _ _ _ _ _ => (dg_tup (C.toCxD.blk rfl _ _ _ _ _).cm (dgs_cons (dg_v (C.toCxD.blk rfl _ _ _ _ _) 2 ((C.toCxD.blk rfl _ _ _ _ _).stl (by decide +kernel))) (dgs_cons (dg_v (C.toCxD.blk rfl _ _ _ _ _) 3 ((C.toCxD.blk rfl _ _ _ _ _).stl (by decide +kernel))) dgs_nil)) rfl rfl (C.toCxD.blk rfl _ _ _ _ _).hK)) (fun _ _ _ _ _ => dts_nil) (fun _ _ _ _ _ => (de_callC (C.toCxD.blk rfl _ _ _ _ _) C__law_same ⟨by decide +kernel, by decide +kernel, by decide +kernel⟩ (by omega) (da_cons (de_v (C.toCxD.blk rfl _ _ _ _ _) 2 ⟨by unfold Vis; decide +kernel, by decide +kernel, by decide +kernel⟩) (da_cons (de_v (C.toCxD.blk rfl _ _ _ _ _) 3 ⟨by unfold Vis; decide +kernel, by decide +kernel, by decide +kernel⟩) da_nil))))) dv_nil))))))) dss_nil) (dss_cons (ds_if (dt_w (dw_or (dt_ne (de_isiF C.toCxD g__law_same.isinstance T.z_isinstance g__law_same.bool T.z_bool boot_bool kit_bool (de_v C.toCxD 0 v__law_same._law_found)) (de_isiF C.toCxD g__law_same.isinstance T.z_isinstance g__law_same.bool T.z_bool boot_bool kit_bool (de_v C.toCxD 1 v__law_same._law_due)) C.toCxD.u64 C.toCxD.hK) (dw_or1 (dt_ne (de_isiF C.toCxD g__law_same.isinstance T.z_isinstance g__law_same.int T.z_int boot_int kit_int (de_v C.toCxD 0 v__law_same._law_found)) (de_isiF C.toCxD g__law_same.isinstance T.z_isinstance g__law_same.int T.z_int boot_int kit_int (de_v C.toCxD 1 v__law_same._law_due)) C.toCxD.u64 C.toCxD.hK)))) (dss_one (ds_ret de_bl)) dss_nil) (dss_one (ds_ret (de_and (de_eq (de_isiF C.toCxD g__law_same.isinstance T.z_isinstance g__law_same.str T.z_str boot_str kit_str (de_v C.toCxD 0 v__law_same._law_found)) (de_isiF C.toCxD g__law_same.isinstance T.z_isinstance g__law_same.str T.z_str boot_str kit_str (de_v C.toCxD 1 v__law_same._law_due)) C.toCxD.u64 C.toCxD.hK) (de_one (de_eq (de_v C.toCxD 0 v__law_same._law_found) (de_v C.toCxD 1 v__law_same._law_due) C.toCxD.u64 C.toCxD.hK))))))))
theorem ok__law_same {P : Program} {w : World} {base : Heap} {M : Mx} (T : Tx M w) (Dx : DefAt M "_law_same" s__law_same ["_law_found", "_law_due"])  : ∀ n : Nat, FnOk P w M.K M.mg base (L2.CX P w) (0 + n) Dx.f Dx.fd ["_law_found", "_law_due"] (spD M 2 (m__law_same n))
  | 0 => fn_bad
  | n + 1 => by
    have ih := ok__law_same (P := P) (base := base) T Dx  n
    have h : ∀ (cdv : Value) (A : Around) (outer : List Env) (s : Shared) (H : Hp) (E : XK), Room (0 + n) (A.deeper (envOfC "_law_same" (defScope s__law_same) s.heap.objs.size Dx.f cdv)) → DSs (cxOf (L2.CX P w) P w M.K M.mg base n__law_same "_law_same" (defScope s__law_same) Dx.f cdv A outer s H E) M (fun cls d _ H' => E cls d H') (defBody s__law_same) (b__law_same (m__law_same n)) := fun cdv A outer s H E hr => d__law_same T  (0 + n) (by omega) (m__law_same n) (Dx.cal ih) (cxF_of sc__law_same hr)
    exact fn_D Dx.fu sc__law_same h
def cal__law_same {P : Program} {w : World} {base : Heap} {M : Mx} (T : Tx M w) (Dx : DefAt M "_law_same" s__law_same ["_law_found", "_law_due"])  : Cal P w base M "_law_same" 8 2 (m__law_same 8) := Dx.cal (ok__law_same (P := P) (base := base) T Dx  8)
abbrev s_common_divisor : Stmt := topS 7
abbrev n_common_divisor : List Str := ["one", "other"]
theorem sc_common_divisor : FnScope n_common_divisor ["one", "other"] (defScope s_common_divisor) := ⟨rfl, rfl, rfl, by decide +kernel, rfl, by decide +kernel, by decide +kernel⟩
structure V_common_divisor : Prop where
  other : NameOk (defScope s_common_divisor) "other"
  one : NameOk (defScope s_common_divisor) "one"
theorem v_common_divisor : V_common_divisor := ⟨⟨by unfold Vis; decide +kernel, by decide +kernel, by decide +kernel⟩, ⟨by unfold Vis; decide +kernel, by decide +kernel, by decide +kernel⟩⟩
def b_common_divisor : DM Fl := sSeq (sWhile (fun ρ => (dOp2 neD (dVar 1) (dC (.int 0)) ρ).bind asB) (sPar 0 1 (aCons (dVar 1) (aCons (dOp2 modD (dVar 0) (dVar 1)) (aNil))))) (sRet (dVar 0))
def m_common_divisor : SE → R RV := mFn n_common_divisor.length b_common_divisor
theorem d_common_divisor {P : Program} {w : World} {base : Heap} {M : Mx} (T : Tx M w)  {X : Cx} {W : DL.WX} (C : CxF P w base M n_common_divisor (defScope s_common_divisor) 0 X W) : DSs X M W (defBody s_common_divisor) b_common_divisor :=
  (dss_cons (ds_while C.ps (dt_ne (de_v C.toCxD 1 v_common_divisor.other) de_int C.toCxD.u64 C.toCxD.hK) (dss_one (ds_parv C.toCxD 0 1 (by decide +kernel) (by decide +kernel) rfl (by decide +kernel) (da_cons (de_v C.toCxD 1 v_common_divisor.other) (da_cons (de_mod (de_v C.toCxD 0 v_common_divisor.one) (de_v C.toCxD 1 v_common_divisor.other)) da_nil))))) (dss_one (ds_ret (de_v C.toCxD 0 v_common_divisor.one))))
theorem ok_common_divisor {P : Program} {w : World} {base : Heap} {M : Mx} (T : Tx M w) (Dx : DefAt M "common_divisor" s_common_divisor ["one", "other"])  : FnOk P w M.K M.mg base (L2.CX P w) 1 Dx.f Dx.fd ["one", "other"] (spD M 2 m_common_divisor) := by
  have h : ∀ (cdv : Value) (A : Around) (outer : List Env) (s : Shared) (H : Hp) (E : XK), Room 0 (A.deeper (envOfC "common_divisor" (defScope s_common_divisor) s.heap.objs.size Dx.f cdv)) → DSs (cxOf (L2.CX P w) P w M.K M.mg base n_common_divisor "common_divisor" (defScope s_common_divisor) Dx.f cdv A outer s H E) M (fun cls d _ H' => E cls d H') (defBody s_common_divisor) b_common_divisor := fun cdv A outer s H E hr => d_common_divisor T  (cxF_of sc_common_divisor hr)
  exact fn_D Dx.fu sc_common_divisor h
def cal_common_divisor {P : Program} {w : World} {base : Heap} {M : Mx} (T : Tx M w) (Dx : DefAt M "common_divisor" s_common_divisor ["one", "other"])  : Cal P w base M "common_divisor" 1 2 m_common_divisor := Dx.cal (ok_common_divisor (P := P) (base := base) T Dx )
abbrev s_fraction : Stmt := topS 8
abbrev n_fraction : List Str := ["numerator", "denominator", "divisor"]
theorem sc_fraction : FnScope n_fraction ["numerator", "denominator"] (defScope s_fraction) := ⟨rfl, rfl, rfl, by decide +kernel, rfl, by decide +kernel, by decide +kernel⟩
structure V_fraction : Prop where
  denominator : NameOk (defScope s_fraction) "denominator"
  numerator : NameOk (defScope s_fraction) "numerator"
  divisor : NameOk (defScope s_fraction) "divisor"
theorem v_fraction : V_fraction := ⟨⟨by unfold Vis; decide +kernel, by decide +kernel, by decide +kernel⟩, ⟨by unfold Vis; decide +kernel, by decide +kernel, by decide +kernel⟩, ⟨by unfold Vis; decide +kernel, by decide +kernel, by decide +kernel⟩⟩
structure L_fraction : Prop where
  divisor : L2.Loc (defScope s_fraction) "divisor"
theorem l_fraction : L_fraction := ⟨by unfold L2.Loc; decide +kernel⟩
structure G_fraction : Prop where
  OutOfRange : GlOk (defScope s_fraction) "OutOfRange"
  abs : GlOk (defScope s_fraction) "abs"
  common_divisor : GlOk (defScope s_fraction) "common_divisor"
theorem g_fraction : G_fraction := ⟨⟨by decide +kernel, by decide +kernel, by decide +kernel⟩, ⟨by decide +kernel, by decide +kernel, by decide +kernel⟩, ⟨by decide +kernel, by decide +kernel, by decide +kernel⟩⟩
def b_fraction : DM Fl := sSeq (sIf (fun ρ => (dOp2 eqD (dVar 1) (dC (.int 0)) ρ).bind asB) (sRaise0 "OutOfRange" "OutOfRange") (sPass)) (sSeq (sIf (fun ρ => (dOp2 ltD (dVar 1) (dC (.int 0)) ρ).bind asB) (sPar 0 1 (aCons (dOp2 subD (dC (.int 0)) (dVar 0)) (aCons (dOp2 subD (dC (.int 0)) (dVar 1)) (aNil)))) (sPass)) (sSeq (sSet 2 (dCall 2 [] m_common_divisor (aCons (dCb gAbs (vCons (dVar 0) (vNil))) (aCons (dVar 1) (aNil))))) (sRet (dTup (aCons (dOp2 fdivD (dVar 0) (dVar 2)) (aCons (dOp2 fdivD (dVar 1) (dVar 2)) (aNil)))))))
def m_fraction : SE → R RV := mFn n_fraction.length b_fraction
theorem d_fraction {P : Program} {w : World} {base : Heap} {M : Mx} (T : Tx M w) (C_common_divisor : Cal P w base M "common_divisor" 1 2 m_common_divisor) {X : Cx} {W : DL.WX} (C : CxF P w base M n_fraction (defScope s_fraction) 2 X W) : DSs X M W (defBody s_fraction) b_fraction :=
  (dss_cons (ds_if (dt_eq (de_v C.toCxD 1 v_fraction.denominator) de_int C.toCxD.u64 C.toCxD.hK) (dss_one (ds_raise0 (k := 0) C.toCxD T.x_OutOfRange g_fraction.OutOfRange (by decide))) dss_nil) (dss_cons (ds_if (dt_lt (de_v C.toCxD 1 v_fraction.denominator) de_int) (dss_one (ds_parv C.toCxD 0 1 (by decide +kernel) (by decide +kernel) rfl (by decide +kernel) (da_cons (de_sub de_int (de_v C.toCxD 0 v_fraction.numerator)) (da_cons (de_sub de_int (de_v C.toCxD 1 v_fraction.denominator)) da_nil)))) dss_nil) (dss_cons (ds_v C.toCxD 2 (C.st l_fraction.divisor) (de_callC C.toCxD C_common_divisor g_fraction.common_divisor (by decide) (da_cons (de_absF C.toCxD g_fraction.abs T.z_abs (dv_cons (de_v C.toCxD 0 v_fraction.numerator) dv_nil)) (da_cons (de_v C.toCxD 1 v_fraction.denominator) da_nil)))) (dss_one (ds_ret (de_tup (da_cons (de_fdiv (de_v C.toCxD 0 v_fraction.numerator) (de_v C.toCxD 2 v_fraction.divisor)) (da_cons (de_fdiv (de_v C.toCxD 1 v_fraction.denominator) (de_v C.toCxD 2 v_fraction.divisor)) da_nil))))))))
theorem ok_fraction {P : Program} {w : World} {base : Heap} {M : Mx} (T : Tx M w) (Dx : DefAtD M "fraction" s_fraction ["numerator", "denominator"] [V.int 1]) (C_common_divisor : Cal P w base M "common_divisor" 1 2 m_common_divisor) : FnOk P w M.K M.mg base (L2.CX P w) 3 Dx.f Dx.fd ["numerator", "denominator"] (spD M 2 m_fraction) := by
  have h : ∀ (cdv : Value) (A : Around) (outer : List Env) (s : Shared) (H : Hp) (E : XK), Room 2 (A.deeper (envOfC "fraction" (defScope s_fraction) s.heap.objs.size Dx.f cdv)) → DSs (cxOf (L2.CX P w) P w M.K M.mg base n_fraction "fraction" (defScope s_fraction) Dx.f cdv A outer s H E) M (fun cls d _ H' => E cls d H') (defBody s_fraction) b_fraction := fun cdv A outer s H E hr => d_fraction T C_common_divisor (cxF_of sc_fraction hr)
  exact fn_DD Dx.fu sc_fraction h
def cal_fraction {P : Program} {w : World} {base : Heap} {M : Mx} (T : Tx M w) (Dx : DefAtD M "fraction" s_fraction ["numerator", "denominator"] [V.int 1]) (C_common_divisor : Cal P w base M "common_divisor" 1 2 m_common_divisor) : Cal P w base M "fraction" 3 2 m_fraction := Dx.cal (ok_fraction (P := P) (base := base) T Dx C_common_divisor)
abbrev s_multiply : Stmt := topS 11
abbrev n_multiply : List Str := ["one", "other"]
theorem sc_multiply : FnScope n_multiply ["one", "other"] (defScope s_multiply) := ⟨rfl, rfl, rfl, by decide +kernel, rfl, by decide +kernel, by decide +kernel⟩
structure V_multiply : Prop where
  one : NameOk (defScope s_multiply) "one"
  other : NameOk (defScope s_multiply) "other"
theorem v_multiply : V_multiply := ⟨⟨by unfold Vis; decide +kernel, by decide +kernel, by decide +kernel⟩, ⟨by unfold Vis; decide +kernel, by decide +kernel, by decide +kernel⟩⟩
structure G_multiply : Prop where
  fraction : GlOk (defScope s_multiply) "fraction"
theorem g_multiply : G_multiply := ⟨⟨by decide +kernel, by decide +kernel, by decide +kernel⟩⟩
def b_multiply : DM Fl := sRet (dCall 2 [] m_fraction (aCons (dOp2 mulD (dOp2 ixD (dVar 0) (dC (.int 0))) (dOp2 ixD (dVar 1) (dC (.int 0)))) (aCons (dOp2 mulD (dOp2 ixD (dVar 0) (dC (.int 1))) (dOp2 ixD (dVar 1) (dC (.int 1)))) (aNil))))
def m_multiply : SE → R RV := mFn n_multiply.length b_multiply
theorem d_multiply {P : Program} {w : World} {base : Heap} {M : Mx} (T : Tx M w) (C_fraction : Cal P w base M "fraction" 3 2 m_fraction) {X : Cx} {W : DL.WX} (C : CxF P w base M n_multiply (defScope s_multiply) 3 X W) : DSs X M W (defBody s_multiply) b_multiply :=
  (dss_one (ds_ret (de_callC C.toCxD C_fraction g_multiply.fraction (by decide) (da_cons (de_mul (de_ix (de_v C.toCxD 0 v_multiply.one) de_int (fun _ _ => rfl) C.toCxD.hK) (de_ix (de_v C.toCxD 1 v_multiply.other) de_int (fun _ _ => rfl) C.toCxD.hK)) (da_cons (de_mul (de_ix (de_v C.toCxD 0 v_multiply.one) de_int (fun _ _ => rfl) C.toCxD.hK) (de_ix (de_v C.toCxD 1 v_multiply.other) de_int (fun _ _ => rfl) C.toCxD.hK)) da_nil)))))
theorem ok_multiply {P : Program} {w : World} {base : Heap} {M : Mx} (T : Tx M w) (Dx : DefAt M "multiply" s_multiply ["one", "other"]) (C_fraction : Cal P w base M "fraction" 3 2 m_fraction) : FnOk P w M.K M.mg base (L2.CX P w) 4 Dx.f Dx.fd ["one", "other"] (spD M 2 m_multiply) := by
  have h : ∀ (cdv : Value) (A : Around) (outer : List Env) (s : Shared) (H : Hp) (E : XK), Room 3 (A.deeper (envOfC "multiply" (defScope s_multiply) s.heap.objs.size Dx.f cdv)) → DSs (cxOf (L2.CX P w) P w M.K M.mg base n_multiply "multiply" (defScope s_multiply) Dx.f cdv A outer s H E) M (fun cls d _ H' => E cls d H') (defBody s_multiply) b_multiply := fun cdv A outer s H E hr => d_multiply T C_fraction (cxF_of sc_multiply hr)
  exact fn_D Dx.fu sc_multiply h
def cal_multiply {P : Program} {w : World} {base : Heap} {M : Mx} (T : Tx M w) (Dx : DefAt M "multiply" s_multiply ["one", "other"]) (C_fraction : Cal P w base M "fraction" 3 2 m_fraction) : Cal P w base M "multiply" 4 2 m_multiply := Dx.cal (ok_multiply (P := P) (base := base) T Dx C_fraction)
abbrev s_subtract : Stmt := topS 10
abbrev n_subtract : List Str := ["one", "other"]
theorem sc_subtract : FnScope n_subtract ["one", "other"] (defScope s_subtract) := ⟨rfl, rfl, rfl, by decide +kernel, rfl, by decide +kernel, by decide +kernel⟩
structure V_subtract : Prop where
  one : NameOk (defScope s_subtract) "one"
  other : NameOk (defScope s_subtract) "other"
theorem v_subtract : V_subtract := ⟨⟨by unfold Vis; decide +kernel, by decide +kernel, by decide +kernel⟩, ⟨by unfold Vis; decide +kernel, by decide +kernel, by decide +kernel⟩⟩
structure G_subtract : Prop where
  fraction : GlOk (defScope s_subtract) "fraction"
theorem g_subtract : G_subtract := ⟨⟨by decide +kernel, by decide +kernel, by decide +kernel⟩⟩
def b_subtract : DM Fl := sRet (dCall 2 [] m_fraction (aCons (dOp2 subD (dOp2 mulD (dOp2 ixD (dVar 0) (dC (.int 0))) (dOp2 ixD (dVar 1) (dC (.int 1)))) (dOp2 mulD (dOp2 ixD (dVar 1) (dC (.int 0))) (dOp2 ixD (dVar 0) (dC (.int 1))))) (aCons (dOp2 mulD (dOp2 ixD (dVar 0) (dC (.int 1))) (dOp2 ixD (dVar 1) (dC (.int 1)))) (aNil))))
def m_subtract : SE → R RV := mFn n_subtract.length b_subtract
theorem d_subtract {P : Program} {w : World} {base : Heap} {M : Mx} (T : Tx M w) (C_fraction : Cal P w base M "fraction" 3 2 m_fraction) {X : Cx} {W : DL.WX} (C : CxF P w base M n_subtract (defScope s_subtract) 3 X W) : DSs X M W (defBody s_subtract) b_subtract :=
  (dss_one (ds_ret (de_callC C.toCxD C_fraction g_subtract.fraction (by decide) (da_cons (de_sub (de_mul (de_ix (de_v C.toCxD 0 v_subtract.one) de_int (fun _ _ => rfl) C.toCxD.hK) (de_ix (de_v C.toCxD 1 v_subtract.other) de_int (fun _ _ => rfl) C.toCxD.hK)) (de_mul (de_ix (de_v C.toCxD 1 v_subtract.other) de_int (fun _ _ => rfl) C.toCxD.hK) (de_ix (de_v C.toCxD 0 v_subtract.one) de_int (fun _ _ => rfl) C.toCxD.hK))) (da_cons (de_mul (de_ix (de_v C.toCxD 0 v_subtract.one) de_int (fun _ _ => rfl) C.toCxD.hK) (de_ix (de_v C.toCxD 1 v_subtract.other) de_int (fun _ _ => rfl) C.toCxD.hK)) da_nil)))))
theorem ok_subtract {P : Program} {w : World} {base : Heap} {M : Mx} (T : Tx M w) (Dx : DefAt M "subtract" s_subtract ["one", "other"]) (C_fraction : Cal P w base M "fraction" 3 2 m_fraction) : FnOk P w M.K M.mg base (L2.CX P w) 4 Dx.f Dx.fd ["one", "other"] (spD M 2 m_subtract) := by
  have h : ∀ (cdv : Value) (A : Around) (outer : List Env) (s : Shared) (H : Hp) (E : XK), Room 3 (A.deeper (envOfC "subtract" (defScope s_subtract) s.heap.objs.size Dx.f cdv)) → DSs (cxOf (L2.CX P w) P w M.K M.mg base n_subtract "subtract" (defScope s_subtract) Dx.f cdv A outer s H E) M (fun cls d _ H' => E cls d H') (defBody s_subtract) b_subtract := fun cdv A outer s H E hr => d_subtract T C_fraction (cxF_of sc_subtract hr)
  exact fn_D Dx.fu sc_subtract h
def cal_subtract {P : Program} {w : World} {base : Heap} {M : Mx} (T : Tx M w) (Dx : DefAt M "subtract" s_subtract ["one", "other"]) (C_fraction : Cal P w base M "fraction" 3 2 m_fraction) : Cal P w base M "subtract" 4 2 m_subtract := Dx.cal (ok_subtract (P := P) (base := base) T Dx C_fraction)
abbrev s_add : Stmt := topS 9
abbrev n_add : List Str := ["one", "other"]
theorem sc_add : FnScope n_add ["one", "other"] (defScope s_add) := ⟨rfl, rfl, rfl, by decide +kernel, rfl, by decide +kernel, by decide +kernel⟩
structure V_add : Prop where
  one : NameOk (defScope s_add) "one"
  other : NameOk (defScope s_add) "other"
theorem v_add : V_add := ⟨⟨by unfold Vis; decide +kernel, by decide +kernel, by decide +kernel⟩, ⟨by unfold Vis; decide +kernel, by decide +kernel, by decide +kernel⟩⟩
structure G_add : Prop where
  fraction : GlOk (defScope s_add) "fraction"
theorem g_add : G_add := ⟨⟨by decide +kernel, by decide +kernel, by decide +kernel⟩⟩
def b_add : DM Fl := sRet (dCall 2 [] m_fraction (aCons (dOp2 addD (dOp2 mulD (dOp2 ixD (dVar 0) (dC (.int 0))) (dOp2 ixD (dVar 1) (dC (.int 1)))) (dOp2 mulD (dOp2 ixD (dVar 1) (dC (.int 0))) (dOp2 ixD (dVar 0) (dC (.int 1))))) (aCons (dOp2 mulD (dOp2 ixD (dVar 0) (dC (.int 1))) (dOp2 ixD (dVar 1) (dC (.int 1)))) (aNil))))
def m_add : SE → R RV := mFn n_add.length b_add
theorem d_add {P : Program} {w : World} {base : Heap} {M : Mx} (T : Tx M w) (C_fraction : Cal P w base M "fraction" 3 2 m_fraction) {X : Cx} {W : DL.WX} (C : CxF P w base M n_add (defScope s_add) 3 X W) : DSs X M W (defBody s_add) b_add :=
  (dss_one (ds_ret (de_callC C.toCxD C_fraction g_add.fraction (by decide) (da_cons (de_add (de_mul (de_ix (de_v C.toCxD 0 v_add.one) de_int (fun _ _ => rfl) C.toCxD.hK) (de_ix (de_v C.toCxD 1 v_add.other) de_int (fun _ _ => rfl) C.toCxD.hK)) (de_mul (de_ix (de_v C.toCxD 1 v_add.other) de_int (fun _ _ => rfl) C.toCxD.hK) (de_ix (de_v C.toCxD 0 v_add.one) de_int (fun _ _ => rfl) C.toCxD.hK)) C.toCxD.hK) (da_cons (de_mul (de_ix (de_v C.toCxD 0 v_add.one) de_int (fun _ _ => rfl) C.toCxD.hK) (de_ix (de_v C.toCxD 1 v_add.other) de_int (fun _ _ => rfl) C.toCxD.hK)) da_nil)))))
theorem ok_add {P : Program} {w : World} {base : Heap} {M : Mx} (T : Tx M w) (Dx : DefAt M "add" s_add ["one", "other"]) (C_fraction : Cal P w base M "fraction" 3 2 m_fraction) : FnOk P w M.K M.mg base (L2.CX P w) 4 Dx.f Dx.fd ["one", "other"] (spD M 2 m_add) := by
  have h : ∀ (cdv : Value) (A : Around) (outer : List Env) (s : Shared) (H : Hp) (E : XK), Room 3 (A.deeper (envOfC "add" (defScope s_add) s.heap.objs.size Dx.f cdv)) → DSs (cxOf (L2.CX P w) P w M.K M.mg base n_add "add" (defScope s_add) Dx.f cdv A outer s H E) M (fun cls d _ H' => E cls d H') (defBody s_add) b_add := fun cdv A outer s H E hr => d_add T C_fraction (cxF_of sc_add hr)
  exact fn_D Dx.fu sc_add h
def cal_add {P : Program} {w : World} {base : Heap} {M : Mx} (T : Tx M w) (Dx : DefAt M "add" s_add ["one", "other"]) (C_fraction : Cal P w base M "fraction" 3 2 m_fraction) : Cal P w base M "add" 4 2 m_add := Dx.cal (ok_add (P := P) (base := base) T Dx C_fraction)
abbrev s_is_less : Stmt := topS 12
abbrev n_is_less : List Str := ["one", "other"]
theorem sc_is_less : FnScope n_is_less ["one", "other"] (defScope s_is_less) := ⟨rfl, rfl, rfl, by decide +kernel, rfl, by decide +kernel, by decide +kernel⟩
structure V_is_less : Prop where
  one : NameOk (defScope s_is_less) "one"
  other : NameOk (defScope s_is_less) "other"
theorem v_is_less : V_is_less := ⟨⟨by unfold Vis; decide +kernel, by decide +kernel, by decide +kernel⟩, ⟨by unfold Vis; decide +kernel, by decide +kernel, by decide +kernel⟩⟩
def b_is_less : DM Fl := sRet (dOp2 ltD (dOp2 mulD (dOp2 ixD (dVar 0) (dC (.int 0))) (dOp2 ixD (dVar 1) (dC (.int 1)))) (dOp2 mulD (dOp2 ixD (dVar 1) (dC (.int 0))) (dOp2 ixD (dVar 0) (dC (.int 1)))))
def m_is_less : SE → R RV := mFn n_is_less.length b_is_less
theorem d_is_less {P : Program} {w : World} {base : Heap} {M : Mx} (T : Tx M w)  {X : Cx} {W : DL.WX} (C : CxF P w base M n_is_less (defScope s_is_less) 0 X W) : DSs X M W (defBody s_is_less) b_is_less :=
  (dss_one (ds_ret (de_lt (de_mul (de_ix (de_v C.toCxD 0 v_is_less.one) de_int (fun _ _ => rfl) C.toCxD.hK) (de_ix (de_v C.toCxD 1 v_is_less.other) de_int (fun _ _ => rfl) C.toCxD.hK)) (de_mul (de_ix (de_v C.toCxD 1 v_is_less.other) de_int (fun _ _ => rfl) C.toCxD.hK) (de_ix (de_v C.toCxD 0 v_is_less.one) de_int (fun _ _ => rfl) C.toCxD.hK)))))
theorem ok_is_less {P : Program} {w : World} {base : Heap} {M : Mx} (T : Tx M w) (Dx : DefAt M "is_less" s_is_less ["one", "other"])  : FnOk P w M.K M.mg base (L2.CX P w) 1 Dx.f Dx.fd ["one", "other"] (spD M 2 m_is_less) := by
  have h : ∀ (cdv : Value) (A : Around) (outer : List Env) (s : Shared) (H : Hp) (E : XK), Room 0 (A.deeper (envOfC "is_less" (defScope s_is_less) s.heap.objs.size Dx.f cdv)) → DSs (cxOf (L2.CX P w) P w M.K M.mg base n_is_less "is_less" (defScope s_is_less) Dx.f cdv A outer s H E) M (fun cls d _ H' => E cls d H') (defBody s_is_less) b_is_less := fun cdv A outer s H E hr => d_is_less T  (cxF_of sc_is_less hr)
  exact fn_D Dx.fu sc_is_less h
def cal_is_less {P : Program} {w : World} {base : Heap} {M : Mx} (T : Tx M w) (Dx : DefAt M "is_less" s_is_less ["one", "other"])  : Cal P w base M "is_less" 1 2 m_is_less := Dx.cal (ok_is_less (P := P) (base := base) T Dx )
abbrev s_larger : Stmt := topS 14
abbrev n_larger : List Str := ["one", "other"]
theorem sc_larger : FnScope n_larger ["one", "other"] (defScope s_larger) := ⟨rfl, rfl, rfl, by decide +kernel, rfl, by decide +kernel, by decide +kernel⟩
structure V_larger : Prop where
  other : NameOk (defScope s_larger) "other"
  one : NameOk (defScope s_larger) "one"
theorem v_larger : V_larger := ⟨⟨by unfold Vis; decide +kernel, by decide +kernel, by decide +kernel⟩, ⟨by unfold Vis; decide +kernel, by decide +kernel, by decide +kernel⟩⟩
structure G_larger : Prop where
  is_less : GlOk (defScope s_larger) "is_less"
theorem g_larger : G_larger := ⟨⟨by decide +kernel, by decide +kernel, by decide +kernel⟩⟩
def b_larger : DM Fl := sRet (dIf (fun ρ => ((dCall 2 [] m_is_less (aCons (dVar 0) (aCons (dVar 1) (aNil)))) ρ).bind asB) (dVar 1) (dVar 0))
def m_larger : SE → R RV := mFn n_larger.length b_larger
theorem d_larger {P : Program} {w : World} {base : Heap} {M : Mx} (T : Tx M w) (C_is_less : Cal P w base M "is_less" 1 2 m_is_less) {X : Cx} {W : DL.WX} (C : CxF P w base M n_larger (defScope s_larger) 1 X W) : DSs X M W (defBody s_larger) b_larger :=
  (dss_one (ds_ret (de_if (dt_val (de_callC C.toCxD C_is_less g_larger.is_less (by decide) (da_cons (de_v C.toCxD 0 v_larger.one) (da_cons (de_v C.toCxD 1 v_larger.other) da_nil)))) (de_v C.toCxD 1 v_larger.other) (de_v C.toCxD 0 v_larger.one))))
theorem ok_larger {P : Program} {w : World} {base : Heap} {M : Mx} (T : Tx M w) (Dx : DefAt M "larger" s_larger ["one", "other"]) (C_is_less : Cal P w base M "is_less" 1 2 m_is_less) : FnOk P w M.K M.mg base (L2.CX P w) 2 Dx.f Dx.fd ["one", "other"] (spD M 2 m_larger) := by
  have h : ∀ (cdv : Value) (A : Around) (outer : List Env) (s : Shared) (H : Hp) (E : XK), Room 1 (A.deeper (envOfC "larger" (defScope s_larger) s.heap.objs.size Dx.f cdv)) → DSs (cxOf (L2.CX P w) P w M.K M.mg base n_larger "larger" (defScope s_larger) Dx.f cdv A outer s H E) M (fun cls d _ H' => E cls d H') (defBody s_larger) b_larger := fun cdv A outer s H E hr => d_larger T C_is_less (cxF_of sc_larger hr)
  exact fn_D Dx.fu sc_larger h
def cal_larger {P : Program} {w : World} {base : Heap} {M : Mx} (T : Tx M w) (Dx : DefAt M "larger" s_larger ["one", "other"]) (C_is_less : Cal P w base M "is_less" 1 2 m_is_less) : Cal P w base M "larger" 2 2 m_larger := Dx.cal (ok_larger (P := P) (base := base) T Dx C_is_less)
abbrev s_smaller : Stmt := topS 13
abbrev n_smaller : List Str := ["one", "other"]
theorem sc_smaller : FnScope n_smaller ["one", "other"] (defScope s_smaller) := ⟨rfl, rfl, rfl, by decide +kernel, rfl, by decide +kernel, by decide +kernel⟩
structure V_smaller : Prop where
  one : NameOk (defScope s_smaller) "one"
  other : NameOk (defScope s_smaller) "other"
theorem v_smaller : V_smaller := ⟨⟨by unfold Vis; decide +kernel, by decide +kernel, by decide +kernel⟩, ⟨by unfold Vis; decide +kernel, by decide +kernel, by decide +kernel⟩⟩
structure G_smaller : Prop where
  is_less : GlOk (defScope s_smaller) "is_less"
theorem g_smaller : G_smaller := ⟨⟨by decide +kernel, by decide +kernel, by decide +kernel⟩⟩
def b_smaller : DM Fl := sRet (dIf (fun ρ => ((dCall 2 [] m_is_less (aCons (dVar 1) (aCons (dVar 0) (aNil)))) ρ).bind asB) (dVar 1) (dVar 0))
def m_smaller : SE → R RV := mFn n_smaller.length b_smaller
theorem d_smaller {P : Program} {w : World} {base : Heap} {M : Mx} (T : Tx M w) (C_is_less : Cal P w base M "is_less" 1 2 m_is_less) {X : Cx} {W : DL.WX} (C : CxF P w base M n_smaller (defScope s_smaller) 1 X W) : DSs X M W (defBody s_smaller) b_smaller :=
  (dss_one (ds_ret (de_if (dt_val (de_callC C.toCxD C_is_less g_smaller.is_less (by decide) (da_cons (de_v C.toCxD 1 v_smaller.other) (da_cons (de_v C.toCxD 0 v_smaller.one) da_nil)))) (de_v C.toCxD 1 v_smaller.other) (de_v C.toCxD 0 v_smaller.one))))
theorem ok_smaller {P : Program} {w : World} {base : Heap} {M : Mx} (T : Tx M w) (Dx : DefAt M "smaller" s_smaller ["one", "other"]) (C_is_less : Cal P w base M "is_less" 1 2 m_is_less) : FnOk P w M.K M.mg base (L2.CX P w) 2 Dx.f Dx.fd ["one", "other"] (spD M 2 m_smaller) := by
  have h : ∀ (cdv : Value) (A : Around) (outer : List Env) (s : Shared) (H : Hp) (E : XK), Room 1 (A.deeper (envOfC "smaller" (defScope s_smaller) s.heap.objs.size Dx.f cdv)) → DSs (cxOf (L2.CX P w) P w M.K M.mg base n_smaller "smaller" (defScope s_smaller) Dx.f cdv A outer s H E) M (fun cls d _ H' => E cls d H') (defBody s_smaller) b_smaller := fun cdv A outer s H E hr => d_smaller T C_is_less (cxF_of sc_smaller hr)
  exact fn_D Dx.fu sc_smaller h
def cal_smaller {P : Program} {w : World} {base : Heap} {M : Mx} (T : Tx M w) (Dx : DefAt M "smaller" s_smaller ["one", "other"]) (C_is_less : Cal P w base M "is_less" 1 2 m_is_less) : Cal P w base M "smaller" 2 2 m_smaller := Dx.cal (ok_smaller (P := P) (base := base) T Dx C_is_less)
abbrev s_value_of : Stmt := topS 19
abbrev n_value_of : List Str := ["expression", "number", "table", "known", "kind", "parts", "key", "last", "first"]
theorem sc_value_of : FnScope n_value_of ["expression", "number", "table", "known"] (defScope s_value_of) := ⟨rfl, rfl, rfl, by decide +kernel, rfl, by decide +kernel, by decide +kernel⟩
structure V_value_of : Prop where
  expression : NameOk (defScope s_value_of) "expression"
  kind : NameOk (defScope s_value_of) "kind"
  parts : NameOk (defScope s_value_of) "parts"
  number : NameOk (defScope s_value_of) "number"
  known : NameOk (defScope s_value_of) "known"
  table : NameOk (defScope s_value_of) "table"
  key : NameOk (defScope s_value_of) "key"
  last : NameOk (defScope s_value_of) "last"
  first : NameOk (defScope s_value_of) "first"
theorem v_value_of : V_value_of := ⟨⟨by unfold Vis; decide +kernel, by decide +kernel, by decide +kernel⟩, ⟨by unfold Vis; decide +kernel, by decide +kernel, by decide +kernel⟩, ⟨by unfold Vis; decide +kernel, by decide +kernel, by decide +kernel⟩, ⟨by unfold Vis; decide +kernel, by decide +kernel, by decide +kernel⟩, ⟨by unfold Vis; decide +kernel, by decide +kernel, by decide +kernel⟩, ⟨by unfold Vis; decide +kernel, by decide +kernel, by decide +kernel⟩, ⟨by unfold Vis; decide +kernel, by decide +kernel, by decide +kernel⟩, ⟨by unfold Vis; decide +kernel, by decide +kernel, by decide +kernel⟩, ⟨by unfold Vis; decide +kernel, by decide +kernel, by decide +kernel⟩⟩
structure L_value_of : Prop where
  kind : L2.Loc (defScope s_value_of) "kind"
  parts : L2.Loc (defScope s_value_of) "parts"
  key : L2.Loc (defScope s_value_of) "key"
  last : L2.Loc (defScope s_value_of) "last"
  first : L2.Loc (defScope s_value_of) "first"
theorem l_value_of : L_value_of := ⟨by unfold L2.Loc; decide +kernel, by unfold L2.Loc; decide +kernel, by unfold L2.Loc; decide +kernel, by unfold L2.Loc; decide +kernel, by unfold L2.Loc; decide +kernel⟩
structure G_value_of : Prop where
  value_of : GlOk (defScope s_value_of) "value_of"
  multiply : GlOk (defScope s_value_of) "multiply"
  ZERO : GlOk (defScope s_value_of) "ZERO"
  subtract : GlOk (defScope s_value_of) "subtract"
  smaller : GlOk (defScope s_value_of) "smaller"
  larger : GlOk (defScope s_value_of) "larger"
  add : GlOk (defScope s_value_of) "add"
theorem g_value_of : G_value_of := ⟨⟨by decide +kernel, by decide +kernel, by decide +kernel⟩, ⟨by decide +kernel, by decide +kernel, by decide +kernel⟩, ⟨by decide +kernel, by decide +kernel, by decide +kernel⟩, ⟨by decide +kernel, by decide +kernel, by decide +kernel⟩, ⟨by decide +kernel, by decide +kernel, by decide +kernel⟩, ⟨by decide +kernel, by decide +kernel, by decide +kernel⟩, ⟨by decide +kernel, by decide +kernel, by decide +kernel⟩⟩
def b_value_of (m : SE → R RV) : DM Fl := sSeq (sStar 4 5 (dVar 0)) (sSeq (sIf (fun ρ => (dOp2 eqD (dVar 4) (dC (.str "number")) ρ).bind asB) (sRet (dOp2 ixD (dVar 5) (dC (.int 0)))) (sPass)) (sSeq (sIf (fun ρ => (dOp2 eqD (dVar 4) (dC (.str "x")) ρ).bind asB) (sRet (dVar 1)) (sPass)) (sSeq (sIf (fun ρ => (dOp2 eqD (dVar 4) (dC (.str "call")) ρ).bind asB) (sSeq (sSet 6 (dTup (aCons (dOp2 ixD (dVar 5) (dC (.int 0))) (aCons (dCall 4 [] m (aCons (dOp2 ixD (dVar 5) (dC (.int 1))) (aCons (dVar 1) (aCons (dVar 2) (aIo 3 (aNil)))))) (aNil))))) (sSeq (sIf (fun ρ => (dOp2 (xinD true) (dVar 6) (dVar 3) ρ).bind asB) (sSubX 3 (dVar 6) (dCall 4 [] m (aCons (dOp2 xgetD (dVar 2) (dOp2 ixD (dVar 6) (dC (.int 0)))) (aCons (dOp2 ixD (dVar 6) (dC (.int 1))) (aCons (dVar 2) (aIo 3 (aNil))))))) (sPass)) (sRet (dOp2 xgetD (dVar 3) (dVar 6))))) (sPass)) (sSeq (sSet 7 (dCall 4 [] m (aCons (dOp2 ixD (dVar 5) (dOp1 negD (dC (.int 1)))) (aCons (dVar 1) (aCons (dVar 2) (aIo 3 (aNil))))))) (sSeq (sIf (fun ρ => (dOp2 eqD (dVar 4) (dC (.str "multiple")) ρ).bind asB) (sRet (dCall 2 [] m_multiply (aCons (dOp2 ixD (dVar 5) (dC (.int 0))) (aCons (dVar 7) (aNil))))) (sPass)) (sSeq (sIf (fun ρ => (dOp2 eqD (dVar 4) (dC (.str "abs")) ρ).bind asB) (sRet (dIf (fun ρ => (dOp2 geD (dOp2 ixD (dVar 7) (dC (.int 0))) (dC (.int 0)) ρ).bind asB) (dVar 7) (dCall 2 [] m_subtract (aCons (dC c_ZERO) (aCons (dVar 7) (aNil)))))) (sPass)) (sSeq (sSet 8 (dCall 4 [] m (aCons (dOp2 ixD (dVar 5) (dC (.int 0))) (aCons (dVar 1) (aCons (dVar 2) (aIo 3 (aNil))))))) (sRet (dCallF (dOp2 xgetD (dDisp (pCons (dC (.str "add")) (dC (.fn "add")) (pCons (dC (.str "subtract")) (dC (.fn "subtract")) (pCons (dC (.str "max")) (dC (.fn "larger")) (pCons (dC (.str "min")) (dC (.fn "smaller")) (pNil)))))) (dVar 4)) 2 [("add", m_add), ("subtract", m_subtract), ("larger", m_larger), ("smaller", m_smaller)] (aCons (dVar 8) (aCons (dVar 7) (aNil))))))))))))
def m_value_of : Nat → SE → R RV
  | 0 => mBad
  | n + 1 => mFn n_value_of.length (b_value_of (m_value_of n))
theorem d_value_of {P : Program} {w : World} {base : Heap} {M : Mx} (T : Tx M w) (C_multiply : Cal P w base M "multiply" 4 2 m_multiply) (C_subtract : Cal P w base M "subtract" 4 2 m_subtract) (C_add : Cal P w base M "add" 4 2 m_add) (C_larger : Cal P w base M "larger" 2 2 m_larger) (C_smaller : Cal P w base M "smaller" 2 2 m_smaller) (k : Nat) (hk : 4 ≤ k) (m : SE → R RV) (C_value_of : Cal P w base M "value_of" k 4 m) {X : Cx} {W : DL.WX} (C : CxF P w base M n_value_of (defScope s_value_of) k X W) : DSs X M W (defBody s_value_of) (b_value_of m) :=
  (dss_cons (ds_starv C.toCxD 4 5 (C.st l_value_of.kind) (C.st l_value_of.parts) (de_v C.toCxD 0 v_value_of.expression)) (dss_cons (ds_if (dt_eq (de_v C.toCxD 4 v_value_of.kind) de_str C.toCxD.u64 C.toCxD.hK) (dss_one (ds_ret (de_ix (de_v C.toCxD 5 v_value_of.parts) de_int (fun _ _ => rfl) C.toCxD.hK))) dss_nil) (dss_cons (ds_if (dt_eq (de_v C.toCxD 4 v_value_of.kind) de_str C.toCxD.u64 C.toCxD.hK) (dss_one (ds_ret (de_v C.toCxD 1 v_value_of.number))) dss_nil) (dss_cons (ds_if (dt_eq (de_v C.toCxD 4 v_value_of.kind) de_str C.toCxD.u64 C.toCxD.hK) (dss_cons (ds_v C.toCxD 6 (C.st l_value_of.key) (de_tup (da_cons (de_ix (de_v C.toCxD 5 v_value_of.parts) de_int (fun _ _ => rfl) C.toCxD.hK) (da_cons (de_callC C.toCxD C_value_of g_value_of.value_of (by omega) (da_cons (de_ix (de_v C.toCxD 5 v_value_of.parts) de_int (fun _ _ => rfl) C.toCxD.hK) (da_cons (de_v C.toCxD 1 v_value_of.number) (da_cons (de_v C.toCxD 2 v_value_of.table) (da_v C.toCxD 3 v_value_of.known da_nil))))) da_nil)))) (dss_cons (ds_if (dt_xnotIn C.toCxD T.hw (de_v C.toCxD 6 v_value_of.key) (de_v C.toCxD 3 v_value_of.known)) (dss_one (ds_subx C.toCxD T.hw 3 v_value_of.known (de_callC C.toCxD C_value_of g_value_of.value_of (by omega) (da_cons (de_xget C.toCxD T.hw (de_v C.toCxD 2 v_value_of.table) (de_ix (de_v C.toCxD 6 v_value_of.key) de_int (fun _ _ => rfl) C.toCxD.hK)) (da_cons (de_ix (de_v C.toCxD 6 v_value_of.key) de_int (fun _ _ => rfl) C.toCxD.hK) (da_cons (de_v C.toCxD 2 v_value_of.table) (da_v C.toCxD 3 v_value_of.known da_nil))))) (de_v C.toCxD 6 v_value_of.key))) dss_nil) (dss_one (ds_ret (de_xget C.toCxD T.hw (de_v C.toCxD 3 v_value_of.known) (de_v C.toCxD 6 v_value_of.key)))))) dss_nil) (dss_cons (ds_v C.toCxD 7 (C.st l_value_of.last) (de_callC C.toCxD C_value_of g_value_of.value_of (by omega) (da_cons (de_ix (de_v C.toCxD 5 v_value_of.parts) (de_neg de_int) (fun _ _ => rfl) C.toCxD.hK) (da_cons (de_v C.toCxD 1 v_value_of.number) (da_cons (de_v C.toCxD 2 v_value_of.table) (da_v C.toCxD 3 v_value_of.known da_nil)))))) (dss_cons (ds_if (dt_eq (de_v C.toCxD 4 v_value_of.kind) de_str C.toCxD.u64 C.toCxD.hK) (dss_one (ds_ret (de_callC C.toCxD C_multiply g_value_of.multiply (by omega) (da_cons (de_ix (de_v C.toCxD 5 v_value_of.parts) de_int (fun _ _ => rfl) C.toCxD.hK) (da_cons (de_v C.toCxD 7 v_value_of.last) da_nil))))) dss_nil) (dss_cons (ds_if (dt_eq (de_v C.toCxD 4 v_value_of.kind) de_str C.toCxD.u64 C.toCxD.hK) (dss_one (ds_ret (de_if (dt_ge (de_ix (de_v C.toCxD 7 v_value_of.last) de_int (fun _ _ => rfl) C.toCxD.hK) de_int) (de_v C.toCxD 7 v_value_of.last) (de_callC C.toCxD C_subtract g_value_of.subtract (by omega) (da_cons (de_k C.toCxD g_value_of.ZERO T.k_ZERO) (da_cons (de_v C.toCxD 7 v_value_of.last) da_nil)))))) dss_nil) (dss_cons (ds_v C.toCxD 8 (C.st l_value_of.first) (de_callC C.toCxD C_value_of g_value_of.value_of (by omega) (da_cons (de_ix (de_v C.toCxD 5 v_value_of.parts) de_int (fun _ _ => rfl) C.toCxD.hK) (da_cons (de_v C.toCxD 1 v_value_of.number) (da_cons (de_v C.toCxD 2 v_value_of.table) (da_v C.toCxD 3 v_value_of.known da_nil)))))) (dss_one (ds_ret (de_callFc C.toCxD C_add (by omega) (de_xget C.toCxD T.hw (de_xdisp C.toCxD T.hw (dps_cons de_str (de_k C.toCxD g_value_of.add (KCon.fn C_add.g)) (dps_cons de_str (de_k C.toCxD g_value_of.subtract (KCon.fn C_subtract.g)) (dps_cons de_str (de_k C.toCxD g_value_of.larger (KCon.fn C_larger.g)) (dps_cons de_str (de_k C.toCxD g_value_of.smaller (KCon.fn C_smaller.g)) dps_nil))))) (de_v C.toCxD 4 v_value_of.kind)) (da_cons (de_v C.toCxD 8 v_value_of.first) (da_cons (de_v C.toCxD 7 v_value_of.last) da_nil)) (de_callFc C.toCxD C_subtract (by omega) (de_xget C.toCxD T.hw (de_xdisp C.toCxD T.hw (dps_cons de_str (de_k C.toCxD g_value_of.add (KCon.fn C_add.g)) (dps_cons de_str (de_k C.toCxD g_value_of.subtract (KCon.fn C_subtract.g)) (dps_cons de_str (de_k C.toCxD g_value_of.larger (KCon.fn C_larger.g)) (dps_cons de_str (de_k C.toCxD g_value_of.smaller (KCon.fn C_smaller.g)) dps_nil))))) (de_v C.toCxD 4 v_value_of.kind)) (da_cons (de_v C.toCxD 8 v_value_of.first) (da_cons (de_v C.toCxD 7 v_value_of.last) da_nil)) (de_callFc C.toCxD C_larger (by omega) (de_xget C.toCxD T.hw (de_xdisp C.toCxD T.hw (dps_cons de_str (de_k C.toCxD g_value_of.add (KCon.fn C_add.g)) (dps_cons de_str (de_k C.toCxD g_value_of.subtract (KCon.fn C_subtract.g)) (dps_cons de_str (de_k C.toCxD g_value_of.larger (KCon.fn C_larger.g)) (dps_cons de_str (de_k C.toCxD g_value_of.smaller (KCon.fn C_smaller.g)) dps_nil))))) (de_v C.toCxD 4 v_value_of.kind)) (da_cons (de_v C.toCxD 8 v_value_of.first) (da_cons (de_v C.toCxD 7 v_value_of.last) da_nil)) (de_callFc C.toCxD C_smaller (by omega) (de_xget C.toCxD T.hw (de_xdisp C.toCxD T.hw (dps_cons de_str (de_k C.toCxD g_value_of.add (KCon.fn C_add.g)) (dps_cons de_str (de_k C.toCxD g_value_of.subtract (KCon.fn C_subtract.g)) (dps_cons de_str (de_k C.toCxD g_value_of.larger (KCon.fn C_larger.g)) (dps_cons de_str (de_k C.toCxD g_value_of.smaller (KCon.fn C_smaller.g)) dps_nil))))) (de_v C.toCxD 4 v_value_of.kind)) (da_cons (de_v C.toCxD 8 v_value_of.first) (da_cons (de_v C.toCxD 7 v_value_of.last) da_nil)) de_callF0))))))))))))))
theorem ok_value_of {P : Program} {w : World} {base : Heap} {M : Mx} (T : Tx M w) (Dx : DefAt M "value_of" s_value_of ["expression", "number", "table", "known"]) (C_multiply : Cal P w base M "multiply" 4 2 m_multiply) (C_subtract : Cal P w base M "subtract" 4 2 m_subtract) (C_add : Cal P w base M "add" 4 2 m_add) (C_larger : Cal P w base M "larger" 2 2 m_larger) (C_smaller : Cal P w base M "smaller" 2 2 m_smaller) : ∀ n : Nat, FnOk P w M.K M.mg base (L2.CX P w) (4 + n) Dx.f Dx.fd ["expression", "number", "table", "known"] (spD M 4 (m_value_of n))
  | 0 => fn_bad
  | n + 1 => by
    have ih := ok_value_of (P := P) (base := base) T Dx C_multiply C_subtract C_add C_larger C_smaller n
    have h : ∀ (cdv : Value) (A : Around) (outer : List Env) (s : Shared) (H : Hp) (E : XK), Room (4 + n) (A.deeper (envOfC "value_of" (defScope s_value_of) s.heap.objs.size Dx.f cdv)) → DSs (cxOf (L2.CX P w) P w M.K M.mg base n_value_of "value_of" (defScope s_value_of) Dx.f cdv A outer s H E) M (fun cls d _ H' => E cls d H') (defBody s_value_of) (b_value_of (m_value_of n)) := fun cdv A outer s H E hr => d_value_of T C_multiply C_subtract C_add C_larger C_smaller (4 + n) (by omega) (m_value_of n) (Dx.cal ih) (cxF_of sc_value_of hr)
    exact fn_D Dx.fu sc_value_of h
def cal_value_of {P : Program} {w : World} {base : Heap} {M : Mx} (T : Tx M w) (Dx : DefAt M "value_of" s_value_of ["expression", "number", "table", "known"]) (C_multiply : Cal P w base M "multiply" 4 2 m_multiply) (C_subtract : Cal P w base M "subtract" 4 2 m_subtract) (C_add : Cal P w base M "add" 4 2 m_add) (C_larger : Cal P w base M "larger" 2 2 m_larger) (C_smaller : Cal P w base M "smaller" 2 2 m_smaller) : Cal P w base M "value_of" 16 4 (m_value_of 12) := Dx.cal (ok_value_of (P := P) (base := base) T Dx C_multiply C_subtract C_add C_larger C_smaller 12)
abbrev s_calls_in : Stmt := topS 16
abbrev n_calls_in : List Str := ["expression", "kind", "parts", "inner", "part", "name"]
theorem sc_calls_in : FnScope n_calls_in ["expression"] (defScope s_calls_in) := ⟨rfl, rfl, rfl, by decide +kernel, rfl, by decide +kernel, by decide +kernel⟩
structure V_calls_in : Prop where
  expression : NameOk (defScope s_calls_in) "expression"
  kind : NameOk (defScope s_calls_in) "kind"
  parts : NameOk (defScope s_calls_in) "parts"
  inner : NameOk (defScope s_calls_in) "inner"
theorem v_calls_in : V_calls_in := ⟨⟨by unfold Vis; decide +kernel, by decide +kernel, by decide +kernel⟩, ⟨by unfold Vis; decide +kernel, by decide +kernel, by decide +kernel⟩, ⟨by unfold Vis; decide +kernel, by decide +kernel, by decide +kernel⟩, ⟨by unfold Vis; decide +kernel, by decide +kernel, by decide +kernel⟩⟩
structure L_calls_in : Prop where
  kind : L2.Loc (defScope s_calls_in) "kind"
  parts : L2.Loc (defScope s_calls_in) "parts"
  inner : L2.Loc (defScope s_calls_in) "inner"
theorem l_calls_in : L_calls_in := ⟨by unfold L2.Loc; decide +kernel, by unfold L2.Loc; decide +kernel, by unfold L2.Loc; decide +kernel⟩
structure G_calls_in : Prop where
  calls_in : GlOk (defScope s_calls_in) "calls_in"
theorem g_calls_in : G_calls_in := ⟨⟨by decide +kernel, by decide +kernel, by decide +kernel⟩⟩
def b_calls_in (m : SE → R RV) : DM Fl := sSeq (sStar 1 2 (dVar 0)) (sSeq (sIf (fun ρ => (dOp2 (inD false) (dVar 1) (dTup (aCons (dC (.str "number")) (aCons (dC (.str "x")) (aNil)))) ρ).bind asB) (sRet (dLst (aNil))) (sPass)) (sSeq (sIf (fun ρ => (dOp2 eqD (dVar 1) (dC (.str "call")) ρ).bind asB) (sRet (dOp2 addD (dLst (aCons (dOp2 ixD (dVar 2) (dC (.int 0))) (aNil))) (dCall 1 [] m (aCons (dOp2 ixD (dVar 2) (dC (.int 1))) (aNil))))) (sPass)) (sSeq (sSet 3 (dIf (fun ρ => (dOp2 eqD (dVar 1) (dC (.str "multiple")) ρ).bind asB) (dSl (dVar 2) (oSome (dC (.int 1))) (oNone)) (dVar 2))) (sRet (dLc2 (dGat [4, 5] (iSeq (dVar 3)) (tgName 4) (tYesD) (cIn [5] (iSeq (dCall 1 [] m (aCons (dVar 4) (aNil)))) (tgName 5) (tYesD) (cEm addL (dVar 5))) []))))))
def m_calls_in : Nat → SE → R RV
  | 0 => mBad
  | n + 1 => mFn n_calls_in.length (b_calls_in (m_calls_in n))
theorem d_calls_in {P : Program} {w : World} {base : Heap} {M : Mx} (T : Tx M w)  (k : Nat) (hk : 0 ≤ k) (m : SE → R RV) (C_calls_in : Cal P w base M "calls_in" k 1 m) {X : Cx} {W : DL.WX} (C : CxF P w base M n_calls_in (defScope s_calls_in) k X W) : DSs X M W (defBody s_calls_in) (b_calls_in m) :=
  (dss_cons (ds_starv C.toCxD 1 2 (C.st l_calls_in.kind) (C.st l_calls_in.parts) (de_v C.toCxD 0 v_calls_in.expression)) (dss_cons (ds_if (dt_in (de_v C.toCxD 1 v_calls_in.kind) (de_tup (da_cons de_str (da_cons de_str da_nil))) C.toCxD.u65 rfl C.toCxD.hK) (dss_one (ds_ret (de_lst da_nil))) dss_nil) (dss_cons (ds_if (dt_eq (de_v C.toCxD 1 v_calls_in.kind) de_str C.toCxD.u64 C.toCxD.hK) (dss_one (ds_ret (de_add (de_lst (da_cons (de_ix (de_v C.toCxD 2 v_calls_in.parts) de_int (fun _ _ => rfl) C.toCxD.hK) da_nil)) (de_callC C.toCxD C_calls_in g_calls_in.calls_in (by omega) (da_cons (de_ix (de_v C.toCxD 2 v_calls_in.parts) de_int (fun _ _ => rfl) C.toCxD.hK) da_nil)) C.toCxD.hK))) dss_nil) (dss_cons (ds_v C.toCxD 3 (C.st l_calls_in.inner) (de_if (dt_eq (de_v C.toCxD 1 v_calls_in.kind) de_str C.toCxD.u64 C.toCxD.hK) (de_sl (de_v C.toCxD 2 v_calls_in.parts) (do_some de_int) do_none C.toCxD.hK) (de_v C.toCxD 2 v_calls_in.parts))) (dss_one (ds_ret (de_lc2 C.toCxD [("part", 4), ("name", 5)] (blkOk_by (by decide +kernel)) [5] (di_seq (de_v C.toCxD 3 v_calls_in.inner) C.toCxD.hK) (fun _ _ _ _ _ => (dg_v (C.toCxD.blk rfl _ _ _ _ _) 4 ((C.toCxD.blk rfl _ _ _ _ _).stl (by decide +kernel)))) (fun _ _ _ _ _ => dts_nil) (fun _ _ _ _ _ => (di_seq (de_callC (C.toCxD.blk rfl _ _ _ _ _) C_calls_in ⟨by decide +kernel, by decide +kernel, by decide +kernel⟩ (by omega) (da_cons (de_v (C.toCxD.blk rfl _ _ _ _ _) 4 ⟨by unfold Vis; decide +kernel, by decide +kernel, by decide +kernel⟩) da_nil)) (C.toCxD.blk rfl _ _ _ _ _).hK)) (fun _ _ _ _ _ => (dg_v (C.toCxD.blk rfl _ _ _ _ _) 5 ((C.toCxD.blk rfl _ _ _ _ _).stl (by decide +kernel)))) (fun _ _ _ _ _ => dts_nil) (fun _ _ _ _ _ => (de_v (C.toCxD.blk rfl _ _ _ _ _) 5 ⟨by unfold Vis; decide +kernel, by decide +kernel, by decide +kernel⟩)))))))))
theorem ok_calls_in {P : Program} {w : World} {base : Heap} {M : Mx} (T : Tx M w) (Dx : DefAt M "calls_in" s_calls_in ["expression"])  : ∀ n : Nat, FnOk P w M.K M.mg base (L2.CX P w) (0 + n) Dx.f Dx.fd ["expression"] (spD M 1 (m_calls_in n))
  | 0 => fn_bad
  | n + 1 => by
    have ih := ok_calls_in (P := P) (base := base) T Dx  n
    have h : ∀ (cdv : Value) (A : Around) (outer : List Env) (s : Shared) (H : Hp) (E : XK), Room (0 + n) (A.deeper (envOfC "calls_in" (defScope s_calls_in) s.heap.objs.size Dx.f cdv)) → DSs (cxOf (L2.CX P w) P w M.K M.mg base n_calls_in "calls_in" (defScope s_calls_in) Dx.f cdv A outer s H E) M (fun cls d _ H' => E cls d H') (defBody s_calls_in) (b_calls_in (m_calls_in n)) := fun cdv A outer s H E hr => d_calls_in T  (0 + n) (by omega) (m_calls_in n) (Dx.cal ih) (cxF_of sc_calls_in hr)
    exact fn_D Dx.fu sc_calls_in h
def cal_calls_in {P : Program} {w : World} {base : Heap} {M : Mx} (T : Tx M w) (Dx : DefAt M "calls_in" s_calls_in ["expression"])  : Cal P w base M "calls_in" 8 1 (m_calls_in 8) := Dx.cal (ok_calls_in (P := P) (base := base) T Dx  8)
abbrev s_follow : Stmt := topS 17
abbrev n_follow : List Str := ["name", "table", "path", "finished", "other"]
theorem sc_follow : FnScope n_follow ["name", "table", "path", "finished"] (defScope s_follow) := ⟨rfl, rfl, rfl, by decide +kernel, rfl, by decide +kernel, by decide +kernel⟩
structure V_follow : Prop where
  name : NameOk (defScope s_follow) "name"
  path : NameOk (defScope s_follow) "path"
  finished : NameOk (defScope s_follow) "finished"
  table : NameOk (defScope s_follow) "table"
  other : NameOk (defScope s_follow) "other"
theorem v_follow : V_follow := ⟨⟨by unfold Vis; decide +kernel, by decide +kernel, by decide +kernel⟩, ⟨by unfold Vis; decide +kernel, by decide +kernel, by decide +kernel⟩, ⟨by unfold Vis; decide +kernel, by decide +kernel, by decide +kernel⟩, ⟨by unfold Vis; decide +kernel, by decide +kernel, by decide +kernel⟩, ⟨by unfold Vis; decide +kernel, by decide +kernel, by decide +kernel⟩⟩
structure L_follow : Prop where
  other : L2.Loc (defScope s_follow) "other"
theorem l_follow : L_follow := ⟨by unfold L2.Loc; decide +kernel⟩
structure G_follow : Prop where
  calls_in : GlOk (defScope s_follow) "calls_in"
  follow : GlOk (defScope s_follow) "follow"
theorem g_follow : G_follow := ⟨⟨by decide +kernel, by decide +kernel, by decide +kernel⟩, ⟨by decide +kernel, by decide +kernel, by decide +kernel⟩⟩
def b_follow (m : SE → R RV) : DM Fl := sSeq (sIf (fun ρ => (dOp2 (inD false) (dVar 0) (dVar 2) ρ).bind asB) (sBad) (sPass)) (sSeq (sIf (fun ρ => (dOp2 (inD false) (dVar 0) (dVar 3) ρ).bind asB) (sRetN) (sPass)) (sSeq (sIf (fun ρ => (dOp2 (xinD true) (dVar 0) (dVar 1) ρ).bind asB) (sBad) (sPass)) (sSeq (sFor (iSeq (dCall 1 [] (m_calls_in 8) (aCons (dOp2 xgetD (dVar 1) (dVar 0)) (aNil)))) (tgName 4) (sExpr (dCall 4 [] m (aCons (dVar 4) (aCons (dVar 1) (aCons (dOp2 addD (dVar 2) (dLst (aCons (dVar 0) (aNil)))) (aIo 3 (aNil)))))))) (sExpr (lmD 3 gAppend (aCons (dVar 0) (aNil)))))))
def m_follow : Nat → SE → R RV
  | 0 => mBad
  | n + 1 => mFn n_follow.length (b_follow (m_follow n))
theorem d_follow {P : Program} {w : World} {base : Heap} {M : Mx} (T : Tx M w) (C_calls_in : Cal P w base M "calls_in" 8 1 (m_calls_in 8)) (k : Nat) (hk : 8 ≤ k) (m : SE → R RV) (C_follow : Cal P w base M "follow" k 4 m) {X : Cx} {W : DL.WX} (C : CxF P w base M n_follow (defScope s_follow) k X W) : DSs X M W (defBody s_follow) (b_follow m) :=
  (dss_cons (ds_if (dt_in (de_v C.toCxD 0 v_follow.name) (de_v C.toCxD 2 v_follow.path) C.toCxD.u65 rfl C.toCxD.hK) dss_bad dss_nil) (dss_cons (ds_if (dt_in (de_v C.toCxD 0 v_follow.name) (de_v C.toCxD 3 v_follow.finished) C.toCxD.u65 rfl C.toCxD.hK) (dss_one ds_retN) dss_nil) (dss_cons (ds_if (dt_xnotIn C.toCxD T.hw (de_v C.toCxD 0 v_follow.name) (de_v C.toCxD 1 v_follow.table)) dss_bad dss_nil) (dss_cons (ds_for C.ps C.cm (di_seq (de_callC C.toCxD C_calls_in g_follow.calls_in (by omega) (da_cons (de_xget C.toCxD T.hw (de_v C.toCxD 1 v_follow.table) (de_v C.toCxD 0 v_follow.name)) da_nil)) C.toCxD.hK) (dg_v C.toCxD 4 (C.st l_follow.other)) (dss_one (ds_expr (de_callC C.toCxD C_follow g_follow.follow (by omega) (da_cons (de_v C.toCxD 4 v_follow.other) (da_cons (de_v C.toCxD 1 v_follow.table) (da_cons (de_add (de_v C.toCxD 2 v_follow.path) (de_lst (da_cons (de_v C.toCxD 0 v_follow.name) da_nil)) C.toCxD.hK) (da_v C.toCxD 3 v_follow.finished da_nil)))))))) (dss_one (ds_expr (de_lm C.toCxD 3 v_follow.finished lm_append (fun to t p q => pe_bm PySem.F.plainAttrs_list PySem.F.slot_list_append PySem.F.type_list_append mt_append p q) (da_cons (de_v C.toCxD 0 v_follow.name) da_nil))))))))
theorem ok_follow {P : Program} {w : World} {base : Heap} {M : Mx} (T : Tx M w) (Dx : DefAt M "follow" s_follow ["name", "table", "path", "finished"]) (C_calls_in : Cal P w base M "calls_in" 8 1 (m_calls_in 8)) : ∀ n : Nat, FnOk P w M.K M.mg base (L2.CX P w) (8 + n) Dx.f Dx.fd ["name", "table", "path", "finished"] (spD M 4 (m_follow n))
  | 0 => fn_bad
  | n + 1 => by
    have ih := ok_follow (P := P) (base := base) T Dx C_calls_in n
    have h : ∀ (cdv : Value) (A : Around) (outer : List Env) (s : Shared) (H : Hp) (E : XK), Room (8 + n) (A.deeper (envOfC "follow" (defScope s_follow) s.heap.objs.size Dx.f cdv)) → DSs (cxOf (L2.CX P w) P w M.K M.mg base n_follow "follow" (defScope s_follow) Dx.f cdv A outer s H E) M (fun cls d _ H' => E cls d H') (defBody s_follow) (b_follow (m_follow n)) := fun cdv A outer s H E hr => d_follow T C_calls_in (8 + n) (by omega) (m_follow n) (Dx.cal ih) (cxF_of sc_follow hr)
    exact fn_D Dx.fu sc_follow h
def cal_follow {P : Program} {w : World} {base : Heap} {M : Mx} (T : Tx M w) (Dx : DefAt M "follow" s_follow ["name", "table", "path", "finished"]) (C_calls_in : Cal P w base M "calls_in" 8 1 (m_calls_in 8)) : Cal P w base M "follow" 16 4 (m_follow 8) := Dx.cal (ok_follow (P := P) (base := base) T Dx C_calls_in 8)
abbrev s_checked_table : Stmt := topS 18
abbrev n_checked_table : List Str := ["expression", "definitions", "table", "name", "part", "finished"]
theorem sc_checked_table : FnScope n_checked_table ["expression", "definitions"] (defScope s_checked_table) := ⟨rfl, rfl, rfl, by decide +kernel, rfl, by decide +kernel, by decide +kernel⟩
structure V_checked_table : Prop where
  definitions : NameOk (defScope s_checked_table) "definitions"
  expression : NameOk (defScope s_checked_table) "expression"
  finished : NameOk (defScope s_checked_table) "finished"
  table : NameOk (defScope s_checked_table) "table"
  name : NameOk (defScope s_checked_table) "name"
theorem v_checked_table : V_checked_table := ⟨⟨by unfold Vis; decide +kernel, by decide +kernel, by decide +kernel⟩, ⟨by unfold Vis; decide +kernel, by decide +kernel, by decide +kernel⟩, ⟨by unfold Vis; decide +kernel, by decide +kernel, by decide +kernel⟩, ⟨by unfold Vis; decide +kernel, by decide +kernel, by decide +kernel⟩, ⟨by unfold Vis; decide +kernel, by decide +kernel, by decide +kernel⟩⟩
structure L_checked_table : Prop where
  finished : L2.Loc (defScope s_checked_table) "finished"
  name : L2.Loc (defScope s_checked_table) "name"
theorem l_checked_table : L_checked_table := ⟨by unfold L2.Loc; decide +kernel, by unfold L2.Loc; decide +kernel⟩
structure G_checked_table : Prop where
  calls_in : GlOk (defScope s_checked_table) "calls_in"
  follow : GlOk (defScope s_checked_table) "follow"
theorem g_checked_table : G_checked_table := ⟨⟨by decide +kernel, by decide +kernel, by decide +kernel⟩, ⟨by decide +kernel, by decide +kernel, by decide +kernel⟩⟩
def b_checked_table : DM Fl := sSeq (sSet 2 (dDc (dGat [3, 4] (iSeq (dVar 1)) (tgTup 2 (tgCons (tgName 3) (tgCons (tgName 4) (tgNil)))) (tYesD) (cEmD (dVar 3) (dVar 4)) ([], [])))) (sSeq (sSet 5 (dLst (aNil))) (sSeq (sFor (iSeq (dCall 1 [] (m_calls_in 8) (aCons (dVar 0) (aNil)))) (tgName 3) (sExpr (dCall 4 [] (m_follow 8) (aCons (dVar 3) (aCons (dVar 2) (aCons (dLst (aNil)) (aIo 5 (aNil)))))))) (sRet (dVar 2))))
def m_checked_table : SE → R RV := mFn n_checked_table.length b_checked_table
theorem d_checked_table {P : Program} {w : World} {base : Heap} {M : Mx} (T : Tx M w) (C_calls_in : Cal P w base M "calls_in" 8 1 (m_calls_in 8)) (C_follow : Cal P w base M "follow" 16 4 (m_follow 8)) {X : Cx} {W : DL.WX} (C : CxF P w base M n_checked_table (defScope s_checked_table) 16 X W) : DSs X M W (defBody s_checked_table) b_checked_table :=
  (dss_cons (ds_setDc C.toCxD T.hw 2 (by decide +kernel) rfl (by decide +kernel) [("name", 3), ("part", 4)] (blkOk_by (by decide +kernel)) (di_seq (de_v C.toCxD 1 v_checked_table.definitions) C.toCxD.hK) (fun _ _ _ _ _ => (dg_tup (C.toCxD.blk rfl _ _ _ _ _).cm (dgs_cons (dg_v (C.toCxD.blk rfl _ _ _ _ _) 3 ((C.toCxD.blk rfl _ _ _ _ _).stl (by decide +kernel))) (dgs_cons (dg_v (C.toCxD.blk rfl _ _ _ _ _) 4 ((C.toCxD.blk rfl _ _ _ _ _).stl (by decide +kernel))) dgs_nil)) rfl rfl (C.toCxD.blk rfl _ _ _ _ _).hK)) (fun _ _ _ _ _ => dts_nil) (fun _ _ _ _ _ => (de_v (C.toCxD.blk rfl _ _ _ _ _) 3 ⟨by unfold Vis; decide +kernel, by decide +kernel, by decide +kernel⟩)) (fun _ _ _ _ _ => (de_v (C.toCxD.blk rfl _ _ _ _ _) 4 ⟨by unfold Vis; decide +kernel, by decide +kernel, by decide +kernel⟩))) (dss_cons (ds_v C.toCxD 5 (C.st l_checked_table.finished) (de_lst da_nil)) (dss_cons (ds_for C.ps C.cm (di_seq (de_callC C.toCxD C_calls_in g_checked_table.calls_in (by decide) (da_cons (de_v C.toCxD 0 v_checked_table.expression) da_nil)) C.toCxD.hK) (dg_v C.toCxD 3 (C.st l_checked_table.name)) (dss_one (ds_expr (de_callC C.toCxD C_follow g_checked_table.follow (by decide) (da_cons (de_v C.toCxD 3 v_checked_table.name) (da_cons (de_v C.toCxD 2 v_checked_table.table) (da_cons (de_lst da_nil) (da_v C.toCxD 5 v_checked_table.finished da_nil)))))))) (dss_one (ds_ret (de_v C.toCxD 2 v_checked_table.table))))))
theorem ok_checked_table {P : Program} {w : World} {base : Heap} {M : Mx} (T : Tx M w) (Dx : DefAt M "checked_table" s_checked_table ["expression", "definitions"]) (C_calls_in : Cal P w base M "calls_in" 8 1 (m_calls_in 8)) (C_follow : Cal P w base M "follow" 16 4 (m_follow 8)) : FnOk P w M.K M.mg base (L2.CX P w) 17 Dx.f Dx.fd ["expression", "definitions"] (spD M 2 m_checked_table) := by
  have h : ∀ (cdv : Value) (A : Around) (outer : List Env) (s : Shared) (H : Hp) (E : XK), Room 16 (A.deeper (envOfC "checked_table" (defScope s_checked_table) s.heap.objs.size Dx.f cdv)) → DSs (cxOf (L2.CX P w) P w M.K M.mg base n_checked_table "checked_table" (defScope s_checked_table) Dx.f cdv A outer s H E) M (fun cls d _ H' => E cls d H') (defBody s_checked_table) b_checked_table := fun cdv A outer s H E hr => d_checked_table T C_calls_in C_follow (cxF_of sc_checked_table hr)
  exact fn_D Dx.fu sc_checked_table h
def cal_checked_table {P : Program} {w : World} {base : Heap} {M : Mx} (T : Tx M w) (Dx : DefAt M "checked_table" s_checked_table ["expression", "definitions"]) (C_calls_in : Cal P w base M "calls_in" 8 1 (m_calls_in 8)) (C_follow : Cal P w base M "follow" 16 4 (m_follow 8)) : Cal P w base M "checked_table" 17 2 m_checked_table := Dx.cal (ok_checked_table (P := P) (base := base) T Dx C_calls_in C_follow)
abbrev s_evaluate : Stmt := topS 20
abbrev n_evaluate : List Str := ["expression", "number", "definitions"]
theorem sc_evaluate : FnScope n_evaluate ["expression", "number", "definitions"] (defScope s_evaluate) := ⟨rfl, rfl, rfl, by decide +kernel, rfl, by decide +kernel, by decide +kernel⟩
structure V_evaluate : Prop where
  definitions : NameOk (defScope s_evaluate) "definitions"
  expression : NameOk (defScope s_evaluate) "expression"
  number : NameOk (defScope s_evaluate) "number"
theorem v_evaluate : V_evaluate := ⟨⟨by unfold Vis; decide +kernel, by decide +kernel, by decide +kernel⟩, ⟨by unfold Vis; decide +kernel, by decide +kernel, by decide +kernel⟩, ⟨by unfold Vis; decide +kernel, by decide +kernel, by decide +kernel⟩⟩
structure G_evaluate : Prop where
  checked_table : GlOk (defScope s_evaluate) "checked_table"
  value_of : GlOk (defScope s_evaluate) "value_of"
theorem g_evaluate : G_evaluate := ⟨⟨by decide +kernel, by decide +kernel, by decide +kernel⟩, ⟨by decide +kernel, by decide +kernel, by decide +kernel⟩⟩
def b_evaluate : DM Fl := sRet (dCallT 4 (m_value_of 12) (aConsT (dVar 0) (aConsT (dVar 1) (aConsT (dCall 2 [] m_checked_table (aCons (dVar 0) (aCons (dVar 2) (aNil)))) (aTmp (dNewX))))))
def m_evaluate : SE → R RV := mFn n_evaluate.length b_evaluate
theorem d_evaluate {P : Program} {w : World} {base : Heap} {M : Mx} (T : Tx M w) (C_value_of : Cal P w base M "value_of" 16 4 (m_value_of 12)) (C_checked_table : Cal P w base M "checked_table" 17 2 m_checked_table) {X : Cx} {W : DL.WX} (C : CxF P w base M n_evaluate (defScope s_evaluate) 17 X W) : DSs X M W (defBody s_evaluate) b_evaluate :=
  (dss_one (ds_ret (de_callT C.toCxD C_value_of g_evaluate.value_of (by decide) (dat_cons (de_v C.toCxD 0 v_evaluate.expression) (dat_cons (de_v C.toCxD 1 v_evaluate.number) (dat_cons (de_callC C.toCxD C_checked_table g_evaluate.checked_table (by decide) (da_cons (de_v C.toCxD 0 v_evaluate.expression) (da_cons (de_v C.toCxD 2 v_evaluate.definitions) da_nil))) (dat_one de_xnew)))))))
theorem ok_evaluate {P : Program} {w : World} {base : Heap} {M : Mx} (T : Tx M w) (Dx : DefAtK M "evaluate" s_evaluate ["expression", "number", "definitions"] [("definitions", V.ref (M.ca "()"))]) (C_value_of : Cal P w base M "value_of" 16 4 (m_value_of 12)) (C_checked_table : Cal P w base M "checked_table" 17 2 m_checked_table) : FnOk P w M.K M.mg base (L2.CX P w) 18 Dx.f Dx.fd ["expression", "number", "definitions"] (spD M 3 m_evaluate) := by
  have h : ∀ (cdv : Value) (A : Around) (outer : List Env) (s : Shared) (H : Hp) (E : XK), Room 17 (A.deeper (envOfC "evaluate" (defScope s_evaluate) s.heap.objs.size Dx.f cdv)) → DSs (cxOf (L2.CX P w) P w M.K M.mg base n_evaluate "evaluate" (defScope s_evaluate) Dx.f cdv A outer s H E) M (fun cls d _ H' => E cls d H') (defBody s_evaluate) b_evaluate := fun cdv A outer s H E hr => d_evaluate T C_value_of C_checked_table (cxF_of sc_evaluate hr)
  exact fn_DK Dx.fu sc_evaluate h
def cal_evaluate {P : Program} {w : World} {base : Heap} {M : Mx} (T : Tx M w) (Dx : DefAtK M "evaluate" s_evaluate ["expression", "number", "definitions"] [("definitions", V.ref (M.ca "()"))]) (C_value_of : Cal P w base M "value_of" 16 4 (m_value_of 12)) (C_checked_table : Cal P w base M "checked_table" 17 2 m_checked_table) : CalK P w base M "evaluate" s_evaluate ["expression", "number", "definitions"] [("definitions", V.ref (M.ca "()"))] 18 3 m_evaluate := Dx.cal (ok_evaluate (P := P) (base := base) T Dx C_value_of C_checked_table)
abbrev s_law : Stmt := topS 38
theorem kb_evaluate_definitions {M : Mx} {K : PySem.W.Frag} {f : Addr} {fd : FuncData} (F : FunD K "evaluate" "evaluate" (defArgs s_evaluate) (defBody s_evaluate) (defScope s_evaluate) [] [("definitions", V.ref (M.ca "()"))] f fd) : ∃ g, KBn K fd ["expression", "number", "definitions"] 2 ["definitions"] g (pkV [some 0] ([])) :=
  kb_of (ps := ["expression", "number", "definitions"]) F 2 ["definitions"] [some 0] [] (by simp) (by simp) fun _ _ _ _ _ _ us mv ws hl hm hz => match us, mv, ws, hl, hm, hz with | [_, _], [], [_], _, _, _ => rfl
theorem kb_evaluate {M : Mx} {K : PySem.W.Frag} {f : Addr} {fd : FuncData} (F : FunD K "evaluate" "evaluate" (defArgs s_evaluate) (defBody s_evaluate) (defScope s_evaluate) [] [("definitions", V.ref (M.ca "()"))] f fd) : ∃ g, KBn K fd ["expression", "number", "definitions"] 2 [] g (pkV [none] ([V.ref (M.ca "()")])) :=
  kb_of (ps := ["expression", "number", "definitions"]) F 2 [] [none] [("definitions", V.ref (M.ca "()"))] (by simp) (by simp) fun _ _ _ _ _ _ us mv ws hl hm hz => match us, mv, ws, hl, hm, hz with | [_, _], [_], [], _, _, _ => ⟨_, _, _, _, _, _, rfl, rfl, rfl⟩
abbrev n_law : List Str := ["_law_script", "_law_rng", "_law_turn", "_law_names_here", "_law_defined", "_law_expression_here", "_law_kept", "_law_step", "_law_plain", "_law_handed", "_law_spare", "_law_number", "_law_due", "_law_given"]
theorem sc_law : FnScope n_law ["_law_script"] (defScope s_law) := ⟨rfl, rfl, rfl, by decide +kernel, rfl, by decide +kernel, by decide +kernel⟩
structure V_law : Prop where
  _law_script : NameOk (defScope s_law) "_law_script"
  _law_rng : NameOk (defScope s_law) "_law_rng"
  _law_names_here : NameOk (defScope s_law) "_law_names_here"
  _law_defined : NameOk (defScope s_law) "_law_defined"
  _law_spare : NameOk (defScope s_law) "_law_spare"
  _law_handed : NameOk (defScope s_law) "_law_handed"
  _law_number : NameOk (defScope s_law) "_law_number"
  _law_expression_here : NameOk (defScope s_law) "_law_expression_here"
  _law_due : NameOk (defScope s_law) "_law_due"
  _law_given : NameOk (defScope s_law) "_law_given"
  _law_kept : NameOk (defScope s_law) "_law_kept"
  _law_plain : NameOk (defScope s_law) "_law_plain"
theorem v_law : V_law := ⟨⟨by unfold Vis; decide +kernel, by decide +kernel, by decide +kernel⟩, ⟨by unfold Vis; decide +kernel, by decide +kernel, by decide +kernel⟩, ⟨by unfold Vis; decide +kernel, by decide +kernel, by decide +kernel⟩, ⟨by unfold Vis; decide +kernel, by decide +kernel, by decide +kernel⟩, ⟨by unfold Vis; decide +kernel, by decide +kernel, by decide +kernel⟩, ⟨by unfold Vis; decide +kernel, by decide +kernel, by decide +kernel⟩, ⟨by unfold Vis; decide +kernel, by decide +kernel, by decide +kernel⟩, ⟨by unfold Vis; decide +kernel, by decide +kernel, by decide +kernel⟩, ⟨by unfold Vis; decide +kernel, by decide +kernel, by decide +kernel⟩, ⟨by unfold Vis; decide +kernel, by decide +kernel, by decide +kernel⟩, ⟨by unfold Vis; decide +kernel, by decide +kernel, by decide +kernel⟩, ⟨by unfold Vis; decide +kernel, by decide +kernel, by decide +kernel⟩⟩
structure L_law : Prop where
  _law_rng : L2.Loc (defScope s_law) "_law_rng"
  _law_turn : L2.Loc (defScope s_law) "_law_turn"
  _law_names_here : L2.Loc (defScope s_law) "_law_names_here"
  _law_defined : L2.Loc (defScope s_law) "_law_defined"
  _law_expression_here : L2.Loc (defScope s_law) "_law_expression_here"
  _law_kept : L2.Loc (defScope s_law) "_law_kept"
  _law_step : L2.Loc (defScope s_law) "_law_step"
  _law_number : L2.Loc (defScope s_law) "_law_number"
  _law_due : L2.Loc (defScope s_law) "_law_due"
  _law_given : L2.Loc (defScope s_law) "_law_given"
  _law_plain : L2.Loc (defScope s_law) "_law_plain"
theorem l_law : L_law := ⟨by unfold L2.Loc; decide +kernel, by unfold L2.Loc; decide +kernel, by unfold L2.Loc; decide +kernel, by unfold L2.Loc; decide +kernel, by unfold L2.Loc; decide +kernel, by unfold L2.Loc; decide +kernel, by unfold L2.Loc; decide +kernel, by unfold L2.Loc; decide +kernel, by unfold L2.Loc; decide +kernel, by unfold L2.Loc; decide +kernel, by unfold L2.Loc; decide +kernel⟩
structure G_law : Prop where
  _law_begin : GlOk (defScope s_law) "_law_begin"
  range : GlOk (defScope s_law) "range"
  _law_names : GlOk (defScope s_law) "_law_names"
  _law_definitions : GlOk (defScope s_law) "_law_definitions"
  _law_expression : GlOk (defScope s_law) "_law_expression"
  list : GlOk (defScope s_law) "list"
  _law_draw : GlOk (defScope s_law) "_law_draw"
  _law_any_fraction : GlOk (defScope s_law) "_law_any_fraction"
  dict : GlOk (defScope s_law) "dict"
  _law_evaluated : GlOk (defScope s_law) "_law_evaluated"
  tuple : GlOk (defScope s_law) "tuple"
  _law_pick : GlOk (defScope s_law) "_law_pick"
  evaluate : GlOk (defScope s_law) "evaluate"
  _law_same : GlOk (defScope s_law) "_law_same"
theorem g_law : G_law := ⟨⟨by decide +kernel, by decide +kernel, by decide +kernel⟩, ⟨by decide +kernel, by decide +kernel, by decide +kernel⟩, ⟨by decide +kernel, by decide +kernel, by decide +kernel⟩, ⟨by decide +kernel, by decide +kernel, by decide +kernel⟩, ⟨by decide +kernel, by decide +kernel, by decide +kernel⟩, ⟨by decide +kernel, by decide +kernel, by decide +kernel⟩, ⟨by decide +kernel, by decide +kernel, by decide +kernel⟩, ⟨by decide +kernel, by decide +kernel, by decide +kernel⟩, ⟨by decide +kernel, by decide +kernel, by decide +kernel⟩, ⟨by decide +kernel, by decide +kernel, by decide +kernel⟩, ⟨by decide +kernel, by decide +kernel, by decide +kernel⟩, ⟨by decide +kernel, by decide +kernel, by decide +kernel⟩, ⟨by decide +kernel, by decide +kernel, by decide +kernel⟩, ⟨by decide +kernel, by decide +kernel, by decide +kernel⟩⟩
def b_law : DM Fl := sSeq (sSet 1 (dCall 1 [] m__law_begin (aCons (dVar 0) (aNil)))) (sSeq (sFor (iRange1 (vCons (dC (.int 4)) (vNil))) (tgName 2) (sSeq (sSet 3 (dCall 2 [] m__law_names (aIo 1 (aCons (dC (.int 5)) (aNil))))) (sSeq (sSet 4 (dCall 2 [] m__law_definitions (aIo 1 (aCons (dSl (dVar 3) (oNone) (oSome (dC (.int 4)))) (aNil))))) (sSeq (sSet 5 (dCall 3 [] (m__law_expression 8) (aIo 1 (aCons (dSl (dVar 3) (oNone) (oSome (dC (.int 4)))) (aCons (dC (.int 4)) (aNil)))))) (sSeq (sParO 9 10 (dCb gList (vCons (dVar 4) (vNil))) (dTup (aCons (dOp2 ixD (dVar 3) (dC (.int 4))) (aCons (dTup (aCons (dC (.str "call")) (aCons (dOp2 ixD (dVar 3) (dC (.int 4))) (aCons (dTup (aCons (dC (.str "x")) (aNil))) (aNil))))) (aNil))))) (sSeq (sIf (fun ρ => (dOp2 eqD (dCall 2 [] m__law_draw (aIo 1 (aCons (dC (.int 2)) (aNil)))) (dC (.int 0)) ρ).bind asB) (sExpr (lmD 9 gAppend (aCons (dVar 10) (aNil)))) (sPass)) (sSeq (sSet 6 (dCb gList (vCons (dVar 9) (vNil)))) (sSeq (sFor (iRange1 (vCons (dC (.int 3)) (vNil))) (tgName 7) (sSeq (sSet 11 (dCall 2 [] m__law_any_fraction (aIo 1 (aCons (dC (.int 9)) (aNil))))) (sSeq (sSet 12 (dCall 3 [] (m__law_evaluated 12) (aCons (dVar 5) (aCons (dVar 11) (aCons (dCb gDictP (vCons (dVar 4) (vNil))) (aNil)))))) (sSeq (sSet 13 (dCall 2 [] m__law_pick (aIo 1 (aCons (dLst (aCons (dVar 9) (aCons (dCb gTuple (vCons (dVar 9) (vNil))) (aNil)))) (aNil))))) (sIf (dOrT (dNotT (fun ρ => ((dCall 2 [] (m__law_same 8) (aCons (dCallW 2 1 3 (pkD [some 0] []) m_evaluate (aCons (dVar 5) (aCons (dVar 11) (aNil))) (aCons (dVar 13) (aNil))) (aCons (dVar 12) (aNil)))) ρ).bind asB)) (fun ρ => (dOp2 neD (dVar 9) (dVar 6) ρ).bind asB)) (sRet (dC (.bl false))) (sPass)))))) (sSeq (sSet 8 (dCall 3 [] (m__law_expression 8) (aIo 1 (aCons (dLst (aNil)) (aCons (dC (.int 4)) (aNil)))))) (sIf (fun ρ => (dOp2 neD (dCallW 2 0 3 (pkD [none] [.tup []]) m_evaluate (aCons (dVar 8) (aCons (dTup (aCons (dC (.int 1)) (aCons (dC (.int 3)) (aNil)))) (aNil))) (aNil)) (dCall 3 [] (m__law_evaluated 12) (aCons (dVar 8) (aCons (dTup (aCons (dC (.int 1)) (aCons (dC (.int 3)) (aNil)))) (aCons (dNewX) (aNil))))) ρ).bind asB) (sRet (dC (.bl false))) (sPass))))))))))) (sRet (dOp2 eqD (dCallW 2 0 3 (pkD [none] [.tup []]) m_evaluate (aCons (dTup (aCons (dC (.str "abs")) (aCons (dTup (aCons (dC (.str "subtract")) (aCons (dTup (aCons (dC (.str "x")) (aNil))) (aCons (dTup (aCons (dC (.str "number")) (aCons (dTup (aCons (dC (.int 1)) (aCons (dC (.int 1)) (aNil)))) (aNil)))) (aNil))))) (aNil)))) (aCons (dTup (aCons (dC (.int 1)) (aCons (dC (.int 3)) (aNil)))) (aNil))) (aNil)) (dTup (aCons (dC (.int 2)) (aCons (dC (.int 3)) (aNil)))))))
def m_law : SE → R RV := mFn n_law.length b_law
theorem d_law {P : Program} {w : World} {base : Heap} {M : Mx} (T : Tx M w) (C__law_begin : Cal P w base M "_law_begin" 1 1 m__law_begin) (C__law_names : Cal P w base M "_law_names" 3 2 m__law_names) (C__law_definitions : Cal P w base M "_law_definitions" 12 2 m__law_definitions) (C__law_expression : Cal P w base M "_law_expression" 11 3 (m__law_expression 8)) (C__law_draw : Cal P w base M "_law_draw" 1 2 m__law_draw) (C__law_any_fraction : Cal P w base M "_law_any_fraction" 2 2 m__law_any_fraction) (C__law_evaluated : Cal P w base M "_law_evaluated" 14 3 (m__law_evaluated 12)) (C__law_pick : Cal P w base M "_law_pick" 2 2 m__law_pick) (C__law_same : Cal P w base M "_law_same" 8 2 (m__law_same 8)) (C_evaluate : CalK P w base M "evaluate" s_evaluate ["expression", "number", "definitions"] [("definitions", V.ref (M.ca "()"))] 18 3 m_evaluate) {X : Cx} {W : DL.WX} (C : CxF P w base M n_law (defScope s_law) 18 X W) : DSs X M W (defBody s_law) b_law :=
  (dss_cons (ds_v C.toCxD 1 (C.st l_law._law_rng) (de_callC C.toCxD C__law_begin g_law._law_begin (by decide) (da_cons (de_v C.toCxD 0 v_law._law_script) da_nil))) (dss_cons (ds_for C.ps C.cm (di_range1F C.toCxD g_law.range T.z_range (dv_cons de_int dv_nil)) (dg_v C.toCxD 2 (C.st l_law._law_turn)) (dss_cons (ds_v C.toCxD 3 (C.st l_law._law_names_here) (de_callC C.toCxD C__law_names g_law._law_names (by decide) (da_v C.toCxD 1 v_law._law_rng (da_cons de_int da_nil)))) (dss_cons (ds_v C.toCxD 4 (C.st l_law._law_defined) (de_callC C.toCxD C__law_definitions g_law._law_definitions (by decide) (da_v C.toCxD 1 v_law._law_rng (da_cons (de_sl (de_v C.toCxD 3 v_law._law_names_here) do_none (do_some de_int) C.toCxD.hK) da_nil)))) (dss_cons (ds_v C.toCxD 5 (C.st l_law._law_expression_here) (de_callC C.toCxD C__law_expression g_law._law_expression (by decide) (da_v C.toCxD 1 v_law._law_rng (da_cons (de_sl (de_v C.toCxD 3 v_law._law_names_here) do_none (do_some de_int) C.toCxD.hK) (da_cons de_int da_nil))))) (dss_cons (ds_parOv C.toCxD 9 10 (by decide +kernel) (by decide +kernel) rfl (by decide +kernel) (de_listF C.toCxD g_law.list T.z_list (dv_cons (de_v C.toCxD 4 v_law._law_defined) dv_nil)) (de_tup (da_cons (de_ix (de_v C.toCxD 3 v_law._law_names_here) de_int (fun _ _ => rfl) C.toCxD.hK) (da_cons (de_tup (da_cons de_str (da_cons (de_ix (de_v C.toCxD 3 v_law._law_names_here) de_int (fun _ _ => rfl) C.toCxD.hK) (da_cons (de_tup (da_cons de_str da_nil)) da_nil)))) da_nil)))) (dss_cons (ds_if (dt_eq (de_callC C.toCxD C__law_draw g_law._law_draw (by decide) (da_v C.toCxD 1 v_law._law_rng (da_cons de_int da_nil))) de_int C.toCxD.u64 C.toCxD.hK) (dss_one (ds_expr (de_lm C.toCxD 9 v_law._law_handed lm_append (fun to t p q => pe_bm PySem.F.plainAttrs_list PySem.F.slot_list_append PySem.F.type_list_append mt_append p q) (da_cons (de_v C.toCxD 10 v_law._law_spare) da_nil)))) dss_nil) (dss_cons (ds_v C.toCxD 6 (C.st l_law._law_kept) (de_listF C.toCxD g_law.list T.z_list (dv_cons (de_v C.toCxD 9 v_law._law_handed) dv_nil))) (dss_cons (ds_for C.ps C.cm (di_range1F C.toCxD g_law.range T.z_range (dv_cons de_int dv_nil)) (dg_v C.toCxD 7 (C.st l_law._law_step)) (dss_cons (ds_v C.toCxD 11 (C.st l_law._law_number) (de_callC C.toCxD C__law_any_fraction g_law._law_any_fraction (by decide) (da_v C.toCxD 1 v_law._law_rng (da_cons de_int da_nil)))) (dss_cons (ds_v C.toCxD 12 (C.st l_law._law_due) (de_callC C.toCxD C__law_evaluated g_law._law_evaluated (by decide) (da_cons (de_v C.toCxD 5 v_law._law_expression_here) (da_cons (de_v C.toCxD 11 v_law._law_number) (da_cons (de_dictP C.toCxD T.hw g_law.dict T.z_dict (dv_cons (de_v C.toCxD 4 v_law._law_defined) dv_nil)) da_nil))))) (dss_cons (ds_v C.toCxD 13 (C.st l_law._law_given) (de_callC C.toCxD C__law_pick g_law._law_pick (by decide) (da_v C.toCxD 1 v_law._law_rng (da_cons (de_lst (da_cons (de_v C.toCxD 9 v_law._law_handed) (da_cons (de_tupleF C.toCxD g_law.tuple T.z_tuple (dv_cons (de_v C.toCxD 9 v_law._law_handed) dv_nil)) da_nil))) da_nil)))) (dss_one (ds_if (dt_w (dw_or (dt_not (dt_val (de_callC C.toCxD C__law_same g_law._law_same (by decide) (da_cons (de_callW C.toCxD C_evaluate (kb_evaluate_definitions C_evaluate.fu) (pk_reps (fun _ => .nil)) g_law.evaluate (by decide) (da_cons (de_v C.toCxD 5 v_law._law_expression_here) (da_cons (de_v C.toCxD 11 v_law._law_number) da_nil)) (dk_cons (de_v C.toCxD 13 v_law._law_given) dk_nil)) (da_cons (de_v C.toCxD 12 v_law._law_due) da_nil))))) (dw_or1 (dt_ne (de_v C.toCxD 9 v_law._law_handed) (de_v C.toCxD 6 v_law._law_kept) C.toCxD.u64 C.toCxD.hK)))) (dss_one (ds_ret de_bl)) dss_nil)))))) (dss_cons (ds_v C.toCxD 8 (C.st l_law._law_plain) (de_callC C.toCxD C__law_expression g_law._law_expression (by decide) (da_v C.toCxD 1 v_law._law_rng (da_cons (de_lst da_nil) (da_cons de_int da_nil))))) (dss_one (ds_if (dt_ne (de_callW C.toCxD C_evaluate (kb_evaluate C_evaluate.fu) (pk_reps (fun _ => (.cons (T.e_tup _) .nil))) g_law.evaluate (by decide) (da_cons (de_v C.toCxD 8 v_law._law_plain) (da_cons (de_tup (da_cons de_int (da_cons de_int da_nil))) da_nil)) dk_nil) (de_callC C.toCxD C__law_evaluated g_law._law_evaluated (by decide) (da_cons (de_v C.toCxD 8 v_law._law_plain) (da_cons (de_tup (da_cons de_int (da_cons de_int da_nil))) (da_cons de_xnew da_nil)))) C.toCxD.u64 C.toCxD.hK) (dss_one (ds_ret de_bl)) dss_nil))))))))))) (dss_one (ds_ret (de_eq (de_callW C.toCxD C_evaluate (kb_evaluate C_evaluate.fu) (pk_reps (fun _ => (.cons (T.e_tup _) .nil))) g_law.evaluate (by decide) (da_cons (de_tup (da_cons de_str (da_cons (de_tup (da_cons de_str (da_cons (de_tup (da_cons de_str da_nil)) (da_cons (de_tup (da_cons de_str (da_cons (de_tup (da_cons de_int (da_cons de_int da_nil))) da_nil))) da_nil)))) da_nil))) (da_cons (de_tup (da_cons de_int (da_cons de_int da_nil))) da_nil)) dk_nil) (de_tup (da_cons de_int (da_cons de_int da_nil))) C.toCxD.u64 C.toCxD.hK)))))
theorem ok_law {P : Program} {w : World} {base : Heap} {M : Mx} (T : Tx M w) (Dx : DefAt M "law" s_law ["_law_script"]) (C__law_begin : Cal P w base M "_law_begin" 1 1 m__law_begin) (C__law_names : Cal P w base M "_law_names" 3 2 m__law_names) (C__law_definitions : Cal P w base M "_law_definitions" 12 2 m__law_definitions) (C__law_expression : Cal P w base M "_law_expression" 11 3 (m__law_expression 8)) (C__law_draw : Cal P w base M "_law_draw" 1 2 m__law_draw) (C__law_any_fraction : Cal P w base M "_law_any_fraction" 2 2 m__law_any_fraction) (C__law_evaluated : Cal P w base M "_law_evaluated" 14 3 (m__law_evaluated 12)) (C__law_pick : Cal P w base M "_law_pick" 2 2 m__law_pick) (C__law_same : Cal P w base M "_law_same" 8 2 (m__law_same 8)) (C_evaluate : CalK P w base M "evaluate" s_evaluate ["expression", "number", "definitions"] [("definitions", V.ref (M.ca "()"))] 18 3 m_evaluate) : FnOk P w M.K M.mg base (L2.CX P w) 19 Dx.f Dx.fd ["_law_script"] (spD M 1 m_law) := by
  have h : ∀ (cdv : Value) (A : Around) (outer : List Env) (s : Shared) (H : Hp) (E : XK), Room 18 (A.deeper (envOfC "law" (defScope s_law) s.heap.objs.size Dx.f cdv)) → DSs (cxOf (L2.CX P w) P w M.K M.mg base n_law "law" (defScope s_law) Dx.f cdv A outer s H E) M (fun cls d _ H' => E cls d H') (defBody s_law) b_law := fun cdv A outer s H E hr => d_law T C__law_begin C__law_names C__law_definitions C__law_expression C__law_draw C__law_any_fraction C__law_evaluated C__law_pick C__law_same C_evaluate (cxF_of sc_law hr)
  exact fn_D Dx.fu sc_law h
def cal_law {P : Program} {w : World} {base : Heap} {M : Mx} (T : Tx M w) (Dx : DefAt M "law" s_law ["_law_script"]) (C__law_begin : Cal P w base M "_law_begin" 1 1 m__law_begin) (C__law_names : Cal P w base M "_law_names" 3 2 m__law_names) (C__law_definitions : Cal P w base M "_law_definitions" 12 2 m__law_definitions) (C__law_expression : Cal P w base M "_law_expression" 11 3 (m__law_expression 8)) (C__law_draw : Cal P w base M "_law_draw" 1 2 m__law_draw) (C__law_any_fraction : Cal P w base M "_law_any_fraction" 2 2 m__law_any_fraction) (C__law_evaluated : Cal P w base M "_law_evaluated" 14 3 (m__law_evaluated 12)) (C__law_pick : Cal P w base M "_law_pick" 2 2 m__law_pick) (C__law_same : Cal P w base M "_law_same" 8 2 (m__law_same 8)) (C_evaluate : CalK P w base M "evaluate" s_evaluate ["expression", "number", "definitions"] [("definitions", V.ref (M.ca "()"))] 18 3 m_evaluate) : Cal P w base M "law" 19 1 m_law := Dx.cal (ok_law (P := P) (base := base) T Dx C__law_begin C__law_names C__law_definitions C__law_expression C__law_draw C__law_any_fraction C__law_evaluated C__law_pick C__law_same C_evaluate)
structure Ax (M : Mx) where
  f__law_begin : DefAt M "_law_begin" s__law_begin ["_law_script"]
  f__law_draw : DefAt M "_law_draw" s__law_draw ["_law_rng", "_law_many"]
  f__law_pick : DefAt M "_law_pick" s__law_pick ["_law_rng", "_law_items"]
  f__law_letters : DefAt M "_law_letters" s__law_letters []
  f__law_names : DefAt M "_law_names" s__law_names ["_law_rng", "_law_many"]
  f__law_lowest : DefAt M "_law_lowest" s__law_lowest ["_law_above", "_law_below"]
  f__law_text_fraction : DefAt M "_law_text_fraction" s__law_text_fraction ["_law_rng"]
  f__law_expression : DefAt M "_law_expression" s__law_expression ["_law_rng", "_law_names_here", "_law_depth"]
  f__law_definitions : DefAt M "_law_definitions" s__law_definitions ["_law_rng", "_law_names_here"]
  f__law_any_fraction : DefAt M "_law_any_fraction" s__law_any_fraction ["_law_rng", "_law_most"]
  f__law_times : DefAt M "_law_times" s__law_times ["_law_one", "_law_other"]
  f__law_plus : DefAt M "_law_plus" s__law_plus ["_law_one", "_law_other"]
  f__law_minus : DefAt M "_law_minus" s__law_minus ["_law_one", "_law_other"]
  f__law_less : DefAt M "_law_less" s__law_less ["_law_one", "_law_other"]
  f__law_evaluated : DefAt M "_law_evaluated" s__law_evaluated ["_law_expression_here", "_law_number", "_law_table"]
  f__law_same : DefAt M "_law_same" s__law_same ["_law_found", "_law_due"]
  f_common_divisor : DefAt M "common_divisor" s_common_divisor ["one", "other"]
  f_fraction : DefAtD M "fraction" s_fraction ["numerator", "denominator"] [V.int 1]
  f_multiply : DefAt M "multiply" s_multiply ["one", "other"]
  f_subtract : DefAt M "subtract" s_subtract ["one", "other"]
  f_add : DefAt M "add" s_add ["one", "other"]
  f_is_less : DefAt M "is_less" s_is_less ["one", "other"]
  f_larger : DefAt M "larger" s_larger ["one", "other"]
  f_smaller : DefAt M "smaller" s_smaller ["one", "other"]
  f_value_of : DefAt M "value_of" s_value_of ["expression", "number", "table", "known"]
  f_calls_in : DefAt M "calls_in" s_calls_in ["expression"]
  f_follow : DefAt M "follow" s_follow ["name", "table", "path", "finished"]
  f_checked_table : DefAt M "checked_table" s_checked_table ["expression", "definitions"]
  f_evaluate : DefAtK M "evaluate" s_evaluate ["expression", "number", "definitions"] [("definitions", V.ref (M.ca "()"))]
  f_law : DefAt M "law" s_law ["_law_script"]
def all__law_begin {P : Program} {w : World} {base : Heap} {M : Mx} (T : Tx M w) (D : Ax M) : Cal P w base M "_law_begin" 1 1 m__law_begin := cal__law_begin T D.f__law_begin 
def all__law_draw {P : Program} {w : World} {base : Heap} {M : Mx} (T : Tx M w) (D : Ax M) : Cal P w base M "_law_draw" 1 2 m__law_draw := cal__law_draw T D.f__law_draw 
def all__law_pick {P : Program} {w : World} {base : Heap} {M : Mx} (T : Tx M w) (D : Ax M) : Cal P w base M "_law_pick" 2 2 m__law_pick := cal__law_pick T D.f__law_pick (all__law_draw T D)
def all__law_letters {P : Program} {w : World} {base : Heap} {M : Mx} (T : Tx M w) (D : Ax M) : Cal P w base M "_law_letters" 1 0 m__law_letters := cal__law_letters T D.f__law_letters 
def all__law_names {P : Program} {w : World} {base : Heap} {M : Mx} (T : Tx M w) (D : Ax M) : Cal P w base M "_law_names" 3 2 m__law_names := cal__law_names T D.f__law_names (all__law_pick T D) (all__law_draw T D) (all__law_letters T D)
def all__law_lowest {P : Program} {w : World} {base : Heap} {M : Mx} (T : Tx M w) (D : Ax M) : Cal P w base M "_law_lowest" 1 2 m__law_lowest := cal__law_lowest T D.f__law_lowest 
def all__law_text_fraction {P : Program} {w : World} {base : Heap} {M : Mx} (T : Tx M w) (D : Ax M) : Cal P w base M "_law_text_fraction" 3 1 m__law_text_fraction := cal__law_text_fraction T D.f__law_text_fraction (all__law_pick T D) (all__law_draw T D) (all__law_lowest T D)
def all__law_expression {P : Program} {w : World} {base : Heap} {M : Mx} (T : Tx M w) (D : Ax M) : Cal P w base M "_law_expression" 11 3 (m__law_expression 8) := cal__law_expression T D.f__law_expression (all__law_draw T D) (all__law_pick T D) (all__law_text_fraction T D)
def all__law_definitions {P : Program} {w : World} {base : Heap} {M : Mx} (T : Tx M w) (D : Ax M) : Cal P w base M "_law_definitions" 12 2 m__law_definitions := cal__law_definitions T D.f__law_definitions (all__law_expression T D)
def all__law_any_fraction {P : Program} {w : World} {base : Heap} {M : Mx} (T : Tx M w) (D : Ax M) : Cal P w base M "_law_any_fraction" 2 2 m__law_any_fraction := cal__law_any_fraction T D.f__law_any_fraction (all__law_lowest T D) (all__law_draw T D)
def all__law_times {P : Program} {w : World} {base : Heap} {M : Mx} (T : Tx M w) (D : Ax M) : Cal P w base M "_law_times" 2 2 m__law_times := cal__law_times T D.f__law_times (all__law_lowest T D)
def all__law_plus {P : Program} {w : World} {base : Heap} {M : Mx} (T : Tx M w) (D : Ax M) : Cal P w base M "_law_plus" 2 2 m__law_plus := cal__law_plus T D.f__law_plus (all__law_lowest T D)
def all__law_minus {P : Program} {w : World} {base : Heap} {M : Mx} (T : Tx M w) (D : Ax M) : Cal P w base M "_law_minus" 2 2 m__law_minus := cal__law_minus T D.f__law_minus (all__law_lowest T D)
def all__law_less {P : Program} {w : World} {base : Heap} {M : Mx} (T : Tx M w) (D : Ax M) : Cal P w base M "_law_less" 1 2 m__law_less := cal__law_less T D.f__law_less 
def all__law_evaluated {P : Program} {w : World} {base : Heap} {M : Mx} (T : Tx M w) (D : Ax M) : Cal P w base M "_law_evaluated" 14 3 (m__law_evaluated 12) := cal__law_evaluated T D.f__law_evaluated (all__law_times T D) (all__law_plus T D) (all__law_minus T D) (all__law_less T D)
def all__law_same {P : Program} {w : World} {base : Heap} {M : Mx} (T : Tx M w) (D : Ax M) : Cal P w base M "_law_same" 8 2 (m__law_same 8) := cal__law_same T D.f__law_same 
def all_common_divisor {P : Program} {w : World} {base : Heap} {M : Mx} (T : Tx M w) (D : Ax M) : Cal P w base M "common_divisor" 1 2 m_common_divisor := cal_common_divisor T D.f_common_divisor 
def all_fraction {P : Program} {w : World} {base : Heap} {M : Mx} (T : Tx M w) (D : Ax M) : Cal P w base M "fraction" 3 2 m_fraction := cal_fraction T D.f_fraction (all_common_divisor T D)
def all_multiply {P : Program} {w : World} {base : Heap} {M : Mx} (T : Tx M w) (D : Ax M) : Cal P w base M "multiply" 4 2 m_multiply := cal_multiply T D.f_multiply (all_fraction T D)
def all_subtract {P : Program} {w : World} {base : Heap} {M : Mx} (T : Tx M w) (D : Ax M) : Cal P w base M "subtract" 4 2 m_subtract := cal_subtract T D.f_subtract (all_fraction T D)
def all_add {P : Program} {w : World} {base : Heap} {M : Mx} (T : Tx M w) (D : Ax M) : Cal P w base M "add" 4 2 m_add := cal_add T D.f_add (all_fraction T D)
def all_is_less {P : Program} {w : World} {base : Heap} {M : Mx} (T : Tx M w) (D : Ax M) : Cal P w base M "is_less" 1 2 m_is_less := cal_is_less T D.f_is_less 
def all_larger {P : Program} {w : World} {base : Heap} {M : Mx} (T : Tx M w) (D : Ax M) : Cal P w base M "larger" 2 2 m_larger := cal_larger T D.f_larger (all_is_less T D)
def all_smaller {P : Program} {w : World} {base : Heap} {M : Mx} (T : Tx M w) (D : Ax M) : Cal P w base M "smaller" 2 2 m_smaller := cal_smaller T D.f_smaller (all_is_less T D)
def all_value_of {P : Program} {w : World} {base : Heap} {M : Mx} (T : Tx M w) (D : Ax M) : Cal P w base M "value_of" 16 4 (m_value_of 12) := cal_value_of T D.f_value_of (all_multiply T D) (all_subtract T D) (all_add T D) (all_larger T D) (all_smaller T D)
def all_calls_in {P : Program} {w : World} {base : Heap} {M : Mx} (T : Tx M w) (D : Ax M) : Cal P w base M "calls_in" 8 1 (m_calls_in 8) := cal_calls_in T D.f_calls_in 
def all_follow {P : Program} {w : World} {base : Heap} {M : Mx} (T : Tx M w) (D : Ax M) : Cal P w base M "follow" 16 4 (m_follow 8) := cal_follow T D.f_follow (all_calls_in T D)
def all_checked_table {P : Program} {w : World} {base : Heap} {M : Mx} (T : Tx M w) (D : Ax M) : Cal P w base M "checked_table" 17 2 m_checked_table := cal_checked_table T D.f_checked_table (all_calls_in T D) (all_follow T D)
def all_evaluate {P : Program} {w : World} {base : Heap} {M : Mx} (T : Tx M w) (D : Ax M) : CalK P w base M "evaluate" s_evaluate ["expression", "number", "definitions"] [("definitions", V.ref (M.ca "()"))] 18 3 m_evaluate := cal_evaluate T D.f_evaluate (all_value_of T D) (all_checked_table T D)
def all_law {P : Program} {w : World} {base : Heap} {M : Mx} (T : Tx M w) (D : Ax M) : Cal P w base M "law" 19 1 m_law := cal_law T D.f_law (all__law_begin T D) (all__law_names T D) (all__law_definitions T D) (all__law_expression T D) (all__law_draw T D) (all__law_any_fraction T D) (all__law_evaluated T D) (all__law_pick T D) (all__law_same T D) (all_evaluate T D)
end
end Kx

/- part -/
set_option Elab.async false
set_option linter.all false
set_option maxRecDepth 100000
set_option maxHeartbeats 8000000
namespace Kx
open PySem DL PyProof.Rows
def rngL (cs : List Int) (p b s : Int) : List D := [.lst (cs.map .int), .int p, .int b, .int s]
def RngOk (r : List D) : Prop := ∃ (cs : List Int) (p b s : Int), r = rngL cs p b s ∧ 0 ≤ p ∧ 0 ≤ b ∧ 0 ≤ s ∧ s < 2147483549
theorem l2 {i : Int} {k : Nat} (h : i.natAbs < 2 ^ k) (hk : 0 < k) : i.natAbs.log2 < k := log2_lt h hk
theorem pow_ten : powD (.int 10) (.int 18) = some (.im (.int 1000000000000000000)) := by rfl
theorem seq_nx {s t : DM Fl} {ρ ρ1 : SE} {f : Fl} {ρ2 : SE} (h1 : s ρ = .ok .nx ρ1) (h2 : t ρ1 = .ok f ρ2) : sSeq s t ρ = .ok f ρ2 := by
  unfold sSeq
  rw [h1]
  exact h2
theorem ixN41 : L2.ixN 4 1 = some 1 := rfl
theorem ixN42 : L2.ixN 4 2 = some 2 := rfl
theorem ixN43 : L2.ixN 4 3 = some 3 := rfl
theorem w1 : Sml 44111 := by unfold Sml; decide +kernel
theorem w2 : Sml 70001 := by unfold Sml; decide +kernel
theorem w3 : Sml 40699 := by unfold Sml; decide +kernel
theorem w4 : Sml 211 := by unfold Sml; decide +kernel
theorem w5 : Dvs 67 := ⟨by decide, by decide +kernel⟩
theorem w6 : Sml 40009 := by unfold Sml; decide +kernel
theorem draw_ok {r : List D} {n : Int} (hr : RngOk r) (hn : 0 < n) (hb : n < 10 ^ 60) : ∃ (k : Int) (r' : List D), 0 ≤ k ∧ k < n ∧ RngOk r' ∧ m__law_draw [.ow true (.ls r), .im (.int n)] = .ok (.im (.int k)) [.ow true (.ls r'), .im (.int n)] := by
  obtain ⟨cs, p, b, s, rfl, hp, hb0, hs0, hs1⟩ := hr
  have n0 : n ≠ 0 := by omega
  have nl : Dvs n := .of n0 (k := 200) (by omega) (by decide) (by decide)
  have sl : Sml s := .of (k := 32) (by omega) (by decide) (by decide)
  have step : ∀ x : Int, 0 ≤ x.fmod 2147483549 ∧ x.fmod 2147483549 < 2147483549 := fun x => ⟨Int.fmod_nonneg_of_pos _ (by decide), Int.fmod_lt_of_pos _ (by decide)⟩
  have sm : ∀ x : Int, 0 ≤ x → x < 2 ^ 64 → Sml x := fun x h1 h2 => .of (k := 64) (by omega) (by decide) (by decide)
  by_cases hA : b = 0 ∧ p < cs.length
  · obtain ⟨rfl, hA2⟩ := hA
    obtain ⟨c, hc, _⟩ := atI_in hp hA2
    have hc' : L2.atI (cs.map D.int) p = some (.int c) := by
      rw [atI_map, hc]
      rfl
    by_cases hC : 1000000000000000000 ≤ c
    · refine ⟨c.fmod n, rngL cs (p + 1) (c.fdiv n) s, Int.fmod_nonneg_of_pos _ hn, Int.fmod_lt_of_pos _ hn, ⟨cs, p + 1, _, s, rfl, by omega, Int.fdiv_nonneg (by omega) (by omega), hs0, hs1⟩, ?_⟩
      have c0 : 0 < c := by omega
      simp [m__law_draw, mFn, b__law_draw, sSeq, sIf, dAndT, dOp2, dOp1, dVar, dC, dCb, vCons, vNil, sSub, dFz, sSet, stow, sRet, sPass, mRet, outs, out1, rngL, look, asSV, n0, nl, ixN41, ixN42, ixN43, fz, pow_ten, hc', hC, hA2, c0]
    · have m1 := step c
      have e1 : Sml (s * 44111) := sm _ (by omega) (by omega)
      have e2 : Sml (c.fmod 2147483549) := sm _ (by omega) (by omega)
      obtain ⟨s2, es2⟩ : ∃ s2, s2 = (s * 44111 + c.fmod 2147483549 * 70001 + 13).fmod 2147483549 := ⟨_, rfl⟩
      have m2 := step (s * 44111 + c.fmod 2147483549 * 70001 + 13)
      rw [← es2] at m2
      obtain ⟨s3, es3⟩ : ∃ s3, s3 = (s2 * (s2.fmod 65479 + 11) + s2 * 40699 + 70067).fmod 2147483549 := ⟨_, rfl⟩
      have m3 := step (s2 * (s2.fmod 65479 + 11) + s2 * 40699 + 70067)
      rw [← es3] at m3
      have q1 : 0 ≤ s2.fmod 65479 ∧ s2.fmod 65479 < 65479 := ⟨Int.fmod_nonneg_of_pos _ (by decide), Int.fmod_lt_of_pos _ (by decide)⟩
      have q2 : 0 ≤ s3.fmod 7919 ∧ s3.fmod 7919 < 7919 := ⟨Int.fmod_nonneg_of_pos _ (by decide), Int.fmod_lt_of_pos _ (by decide)⟩
      have g1 : Sml s2 := sm _ (by omega) (by omega)
      have g2 : Sml (s2.fmod 65479 + 11) := sm _ (by omega) (by omega)
      have g3 : Sml (s3.fmod 7919) := sm _ (by omega) (by omega)
      refine ⟨(s3.fdiv 67 + s3.fmod 7919 * 211).fmod n, rngL cs (p + 1) 0 s3, Int.fmod_nonneg_of_pos _ hn, Int.fmod_lt_of_pos _ hn, ⟨cs, p + 1, 0, s3, rfl, by omega, by omega, m3.1, m3.2⟩, ?_⟩
      simp [m__law_draw, mFn, b__law_draw, sSeq, sIf, dAndT, dOp2, dOp1, dVar, dC, dCb, vCons, vNil, sSub, dFz, sSet, stow, sRet, sPass, mRet, outs, out1, rngL, look, asSV, n0, nl, ixN41, ixN42, ixN43, fz, pow_ten, hc', hC, hA2, sl, e1, e2, w1, w2, w3, w4, w5, w6, ← es2, g1, g2, ← es3, g3]
  · by_cases hB : 0 < b
    · refine ⟨b.fmod n, rngL cs p (b.fdiv n) s, Int.fmod_nonneg_of_pos _ hn, Int.fmod_lt_of_pos _ hn, ⟨cs, p, _, s, rfl, hp, Int.fdiv_nonneg (by omega) (by omega), hs0, hs1⟩, ?_⟩
      have e0 : ¬ b = 0 := by omega
      simp [m__law_draw, mFn, b__law_draw, sSeq, sIf, dAndT, dOp2, dOp1, dVar, dC, dCb, vCons, vNil, sSub, dFz, sSet, stow, sRet, sPass, mRet, outs, out1, rngL, look, asSV, n0, nl, ixN41, ixN42, ixN43, fz, e0, hB]
    · obtain ⟨s3, es3⟩ : ∃ s3, s3 = (s * (s.fmod 65479 + 11) + s * 40699 + 70067).fmod 2147483549 := ⟨_, rfl⟩
      have m3 := step (s * (s.fmod 65479 + 11) + s * 40699 + 70067)
      rw [← es3] at m3
      have q1 : 0 ≤ s.fmod 65479 ∧ s.fmod 65479 < 65479 := ⟨Int.fmod_nonneg_of_pos _ (by decide), Int.fmod_lt_of_pos _ (by decide)⟩
      have q2 : 0 ≤ s3.fmod 7919 ∧ s3.fmod 7919 < 7919 := ⟨Int.fmod_nonneg_of_pos _ (by decide), Int.fmod_lt_of_pos _ (by decide)⟩
      have g2 : Sml (s.fmod 65479 + 11) := sm _ (by omega) (by omega)
      have g3 : Sml (s3.fmod 7919) := sm _ (by omega) (by omega)
      have b0 : b = 0 := by omega
      subst b0
      have nA : ¬ p < cs.length := fun z => hA ⟨rfl, z⟩
      refine ⟨(s3.fdiv 67 + s3.fmod 7919 * 211).fmod n, rngL cs p 0 s3, Int.fmod_nonneg_of_pos _ hn, Int.fmod_lt_of_pos _ hn, ⟨cs, p, 0, s3, rfl, hp, by omega, m3.1, m3.2⟩, ?_⟩
      simp [m__law_draw, mFn, b__law_draw, sSeq, sIf, dAndT, dOp2, dOp1, dVar, dC, dCb, vCons, vNil, sSub, dFz, sSet, stow, sRet, sPass, mRet, outs, out1, rngL, look, asSV, n0, nl, ixN41, ixN42, ixN43, fz, nA, sl, w1, w2, w3, w4, w5, w6, g2, ← es3, g3]
theorem begin_ok {ns : List Int} (h : ns.length ≤ 63) : ∃ r, RngOk r ∧ m__law_begin [.im (.scr ns)] = .ok (.ow (.ls r)) [.im (.scr ns)] := by
  have sm : ∀ x : Int, 0 ≤ x → x < 2 ^ 64 → Sml x := fun x h1 h2 => .of (k := 64) (by omega) (by decide) (by decide)
  obtain ⟨ρ', e1, s, x, rfl, hs0, hs1, hx⟩ := floop_inv (gm := tgName 2) (b := sSet 1 (dOp2 modD (dOp2 addD (dOp2 addD (dOp2 mulD (dVar 1) (dC (.int 40009))) (dOp2 modD (dVar 2) (dC (.int 2147483549)))) (dC (.int 31))) (dC (.int 2147483549))))
    (I := fun ρ => ∃ (s : Int) (x : SV), ρ = [.im (.scr ns), .im (.int s), x] ∧ 0 ≤ s ∧ s < 2147483549 ∧ ∀ oc, x ≠ .ow true oc) (ds := ns.map D.int) (ρ := [.im (.scr ns), .im (.int (9491 + (ns.length : Int))), .no]) (by
      rintro d hd ρ ⟨s, x, rfl, h0, h1, hx⟩
      obtain ⟨c, _, rfl⟩ := List.mem_map.mp hd
      have e1 := sm s h0 (by omega)
      refine ⟨[.im (.scr ns), .im (.int s), .im (.int c)], .nx, [.im (.scr ns), .im (.int ((s * 40009 + c.fmod 2147483549 + 31).fmod 2147483549)), .im (.int c)], ?_, ?_, .inl rfl, _, _, rfl, Int.fmod_nonneg_of_pos _ (by decide), Int.fmod_lt_of_pos _ (by decide), fun ds z => by cases z⟩
      · cases x with
        | no => simp [tgName, stow]
        | im d => simp [tgName, stow]
        | ow io ds =>
          cases io with
          | true => exact (hx ds rfl).elim
          | false => simp [tgName, stow]
      · simp [sSet, dOp2, dVar, dC, look, asSV, stow, e1, w6]) ⟨_, _, rfl, by omega, by omega, fun ds z => by cases z⟩
  refine ⟨rngL ns 0 0 s, ⟨ns, 0, 0, s, rfl, by decide, by decide, hs0, hs1⟩, ?_⟩
  simp [m__law_begin, mFn, b__law_begin, sSeq, sSet, dOp2, dVar, dC, dCb, vCons, vNil, dSl, oNone, oSome, asPart, look, asSV, stow, sFor, iSeq, iSeqs, dFz, fz, cut63 h, e1, sRet, dLst, aCons, aNil, avD, mRet, outs, out1, rngL]
section
variable {r ds : List D} {n : Int} {Q : RV → SE → Prop} {E : Exc → SE → Prop}
theorem draw_wp (hr : RngOk r) (h0 : 0 < n) (h1 : n < 10 ^ 60) (k : ∀ (k : Int) r', 0 ≤ k → k < n → RngOk r' → Q (.im (.int k)) [.ow true (.ls r'), .im (.int n)]) : WP (m__law_draw [.ow true (.ls r), .im (.int n)]) Q E := by
  obtain ⟨i, r', a, b, c, e⟩ := draw_ok hr h0 h1
  exact .of e (k i r' a b c)
theorem begin_wp {ns : List Int} (h : ns.length ≤ 63) (k : ∀ r, RngOk r → Q (.ow (.ls r)) [.im (.scr ns)]) : WP (m__law_begin [.im (.scr ns)]) Q E := by
  obtain ⟨r, a, e⟩ := begin_ok h
  exact .of e (k r a)
theorem pick_wp (hr : RngOk r) (hd : 0 < ds.length) (hb : ds.length ≤ 1000000) (k : ∀ d r', d ∈ ds → RngOk r' → Q (.im d) [.ow true (.ls r'), .im (.lst ds)]) : WP (m__law_pick [.ow true (.ls r), .im (.lst ds)]) Q E := by
  refine wp_fn ?_
  simp [b__law_pick]
  refine draw_wp hr (by omega) (by omega) fun i r' h0 h1 hr' => ?_
  obtain ⟨d, e2, hm⟩ := atI_in h0 h1
  simp [e2]
  exact k d r' hm hr'
end
end Kx

/- part -/
set_option Elab.async false
set_option linter.all false
set_option maxRecDepth 100000
set_option maxHeartbeats 8000000
namespace Kx
open PySem DL PyProof.Rows
theorem gAbs_int (i : Int) : gAbs [.int i] = some (.im (.int ((i.natAbs : Nat) : Int))) := by
  show some (RV.im (.int (if i < 0 then -i else i))) = _
  congr 3
  split <;> omega
theorem app_ok {ds : List D} {d : D} (h : ds.length < 1000000) : gAppend ds [d] = some (.non, ds ++ [d]) := if_pos h
theorem fm_nat (m n : Nat) : (m : Int).fmod (n : Int) = ((m % n : Nat) : Int) := by
  rw [Int.fmod_eq_emod_of_nonneg _ (Int.natCast_nonneg n)]
  first
    | rfl
    | exact (Int.natCast_emod m n).symm
    | exact (Int.natCast_mod m n).symm
theorem while_stop {c : DM Bool} {b : DM Fl} {ρ ρ1 : SE} (h : c ρ = .ok false ρ1) : sWhile c b ρ = .ok .nx ρ1 := by
  rw [sWhile_eq, h]
  rfl
theorem while_go {c : DM Bool} {b : DM Fl} {ρ ρ1 ρ2 : SE} {r : R Fl} (h : c ρ = .ok true ρ1) (hb : b ρ1 = .ok .nx ρ2) (hr : sWhile c b ρ2 = r) : sWhile c b ρ = r := by
  rw [sWhile_eq, h, bind_okA, if_pos rfl, hb, bind_okA]
  exact hr
theorem gcd_step (m n : Nat) : Nat.gcd n (m % n) = Nat.gcd m n := by rw [Nat.gcd_comm n, ← Nat.gcd_rec, Nat.gcd_comm]
theorem cd_loop : ∀ (n m : Nat), sWhile (fun ρ => (dOp2 neD (dVar 1) (dC (.int 0)) ρ).bind asB) (sPar 0 1 (aCons (dVar 1) (aCons (dOp2 modD (dVar 0) (dVar 1)) (aNil)))) [.im (.int m), .im (.int n)] = .ok .nx [.im (.int (Nat.gcd m n)), .im (.int 0)] := by
  intro n
  induction n using Nat.strongRecOn with
  | ind n ih =>
    intro m
    by_cases h : n = 0
    · subst h
      rw [Nat.gcd_zero_right]
      exact while_stop (by simp [dOp2, dVar, dC, look])
    · have hn : (n : Int) ≠ 0 := by omega
      refine while_go (ρ2 := [.im (.int (n : Int)), .im (.int ((m % n : Nat) : Int))]) (ρ1 := [.im (.int m), .im (.int n)]) (by simp [dOp2, dVar, dC, look, h]) ?_ ((ih (m % n) (Nat.mod_lt _ (by omega)) n).trans (by rw [gcd_step]))
      have hm : modD (.int (m : Int)) (.int (n : Int)) = some (.im (.int ((m % n : Nat) : Int))) := by rw [modD_A hn, fm_nat]
      simp [dOp2, dVar, look, sPar, aCons, aNil, dFz, stow, hm]
theorem lo_loop (A B : SV) : ∀ (n m : Nat), sWhile (fun ρ => (dOp2 neD (dVar 3) (dC (.int 0)) ρ).bind asB) (sPar 2 3 (aCons (dVar 3) (aCons (dOp2 modD (dVar 2) (dVar 3)) (aNil)))) [A, B, .im (.int m), .im (.int n)] = .ok .nx [A, B, .im (.int (Nat.gcd m n)), .im (.int 0)] := by
  intro n
  induction n using Nat.strongRecOn with
  | ind n ih =>
    intro m
    by_cases h : n = 0
    · subst h
      rw [Nat.gcd_zero_right]
      exact while_stop (by simp [dOp2, dVar, dC, look])
    · have hn : (n : Int) ≠ 0 := by omega
      refine while_go (ρ2 := [A, B, .im (.int (n : Int)), .im (.int ((m % n : Nat) : Int))]) (ρ1 := [A, B, .im (.int m), .im (.int n)]) (by simp [dOp2, dVar, dC, look, h]) ?_ ((ih (m % n) (Nat.mod_lt _ (by omega)) n).trans (by rw [gcd_step]))
      have hm : modD (.int (m : Int)) (.int (n : Int)) = some (.im (.int ((m % n : Nat) : Int))) := by rw [modD_A hn, fm_nat]
      simp [dOp2, dVar, look, sPar, aCons, aNil, dFz, stow, hm]
def gI (a b : Int) : Int := (Nat.gcd a.natAbs b.natAbs : Nat)
def nI (a b : Int) : Int := if b < 0 then 0 - a else a
def dI (b : Int) : Int := if b < 0 then 0 - b else b
def frD (a b : Int) : D := .tup [.int ((nI a b).fdiv (gI a b)), .int ((dI b).fdiv (gI a b))]
theorem gI_dvs {a b : Int} (hb : b ≠ 0) (hz : b.natAbs < 2 ^ 8900) : Dvs (gI a b) := by
  have h0 : 0 < Nat.gcd a.natAbs b.natAbs := Nat.gcd_pos_of_pos_right _ (by omega)
  have h1 : Nat.gcd a.natAbs b.natAbs ≤ b.natAbs := Nat.gcd_le_right _ (by omega)
  refine .of (k := 8900) ?_ ?_ (by decide) (by decide)
  · show ((Nat.gcd a.natAbs b.natAbs : Nat) : Int) ≠ 0
    omega
  · show ((Nat.gcd a.natAbs b.natAbs : Nat) : Int).natAbs < 2 ^ 8900
    omega
theorem abs_nI {a b : Int} : (((nI a b).natAbs : Nat) : Int) = ((a.natAbs : Nat) : Int) := by
  unfold nI
  split <;> omega
theorem dI_nat {b : Int} : dI b = ((b.natAbs : Nat) : Int) := by
  unfold dI
  split <;> omega
theorem cd_ok (m n : Nat) : m_common_divisor [.im (.int m), .im (.int n)] = .ok (.im (.int (Nat.gcd m n))) [.im (.int m), .im (.int n)] := by
  have e := seq_nx (cd_loop n m) (show sRet (dVar 0) [.im (.int (Nat.gcd m n)), .im (.int 0)] = .ok (.rt (.im (.int (Nat.gcd m n)))) [.im (.int (Nat.gcd m n)), .im (.int 0)] from rfl)
  show (match b_common_divisor [.im (.int m), .im (.int n)] with
    | .bad => (R.bad : R RV)
    | .ok f ρ => mRet [.im (.int m), .im (.int n)] f ρ
    | .ex e ρ => .ex e (outs [.im (.int m), .im (.int n)] ρ)) = _
  rw [show b_common_divisor [.im (.int m), .im (.int n)] = _ from e]
  rfl
theorem frac_ok {a b : Int} (hb : b ≠ 0) (hz : b.natAbs < 2 ^ 8900) : m_fraction [.im (.int a), .im (.int b)] = .ok (.im (frD a b)) [.im (.int a), .im (.int b)] := by
  have dv := gI_dvs (a := a) hb hz
  have e3 : sSet 2 (dCall 2 [] m_common_divisor (aCons (dCb gAbs (vCons (dVar 0) (vNil))) (aCons (dVar 1) (aNil)))) [.im (.int (nI a b)), .im (.int (dI b)), .no] = .ok .nx [.im (.int (nI a b)), .im (.int (dI b)), .im (.int (gI a b))] := by
    have e := cd_ok a.natAbs b.natAbs
    rw [(abs_nI (a := a) (b := b)).symm, (dI_nat (b := b)).symm] at e
    simp [sSet, dCall, aCons, aNil, dFz, dCb, vCons, vNil, dVar, look, gAbs_int, callR, iosOf, argSV, e, stow]
    rfl
  have e4 : sRet (dTup (aCons (dOp2 fdivD (dVar 0) (dVar 2)) (aCons (dOp2 fdivD (dVar 1) (dVar 2)) (aNil)))) [.im (.int (nI a b)), .im (.int (dI b)), .im (.int (gI a b))] = .ok (.rt (.im (frD a b))) [.im (.int (nI a b)), .im (.int (dI b)), .im (.int (gI a b))] := by
    simp [sRet, dTup, aCons, aNil, dFz, dOp2, dVar, look, dv, avD, frD]
  have e1 : sIf (fun ρ => (dOp2 eqD (dVar 1) (dC (.int 0)) ρ).bind asB) (sRaise0 "OutOfRange" "OutOfRange") (sPass) [.im (.int a), .im (.int b), .no] = .ok .nx [.im (.int a), .im (.int b), .no] := by
    simp [sIf, dOp2, dVar, dC, look, hb, sPass]
  have e2 : sIf (fun ρ => (dOp2 ltD (dVar 1) (dC (.int 0)) ρ).bind asB) (sPar 0 1 (aCons (dOp2 subD (dC (.int 0)) (dVar 0)) (aCons (dOp2 subD (dC (.int 0)) (dVar 1)) (aNil)))) (sPass) [.im (.int a), .im (.int b), .no] = .ok .nx [.im (.int (nI a b)), .im (.int (dI b)), .no] := by
    by_cases h : b < 0 <;> simp [sIf, dOp2, dVar, dC, look, h, sPass, nI, dI, sPar, aCons, aNil, dFz, stow]
  have e := seq_nx e1 (seq_nx e2 (seq_nx e3 e4))
  show (match b_fraction [.im (.int a), .im (.int b), .no] with
    | .bad => (R.bad : R RV)
    | .ok f ρ => mRet [.im (.int a), .im (.int b)] f ρ
    | .ex e ρ => .ex e (outs [.im (.int a), .im (.int b)] ρ)) = _
  rw [show b_fraction [.im (.int a), .im (.int b), .no] = _ from e]
  rfl
theorem low_ok {a b : Int} (hb : b ≠ 0) (hz : b.natAbs < 2 ^ 8900) : m__law_lowest [.im (.int a), .im (.int b)] = .ok (.im (frD a b)) [.im (.int a), .im (.int b)] := by
  have dv := gI_dvs (a := a) hb hz
  have e3 : sPar 2 3 (aCons (dCb gAbs (vCons (dVar 0) (vNil))) (aCons (dVar 1) (aNil))) [.im (.int (nI a b)), .im (.int (dI b)), .no, .no] = .ok .nx [.im (.int (nI a b)), .im (.int (dI b)), .im (.int ((a.natAbs : Nat) : Int)), .im (.int ((b.natAbs : Nat) : Int))] := by
    rw [(abs_nI (a := a) (b := b)).symm, (dI_nat (b := b)).symm]
    simp [sPar, aCons, aNil, dFz, dCb, vCons, vNil, dVar, look, gAbs_int, stow]
  have e4 := lo_loop (.im (.int (nI a b))) (.im (.int (dI b))) b.natAbs a.natAbs
  have e5 : sRet (dTup (aCons (dOp2 fdivD (dVar 0) (dVar 2)) (aCons (dOp2 fdivD (dVar 1) (dVar 2)) (aNil)))) [.im (.int (nI a b)), .im (.int (dI b)), .im (.int (gI a b)), .im (.int 0)] = .ok (.rt (.im (frD a b))) [.im (.int (nI a b)), .im (.int (dI b)), .im (.int (gI a b)), .im (.int 0)] := by
    simp [sRet, dTup, aCons, aNil, dFz, dOp2, dVar, look, dv, avD, frD]
  have e2 : sIf (fun ρ => (dOp2 ltD (dVar 1) (dC (.int 0)) ρ).bind asB) (sPar 0 1 (aCons (dOp2 subD (dC (.int 0)) (dVar 0)) (aCons (dOp2 subD (dC (.int 0)) (dVar 1)) (aNil)))) (sPass) [.im (.int a), .im (.int b), .no, .no] = .ok .nx [.im (.int (nI a b)), .im (.int (dI b)), .no, .no] := by
    by_cases h : b < 0 <;> simp [sIf, dOp2, dVar, dC, look, h, sPass, nI, dI, sPar, aCons, aNil, dFz, stow]
  have e := seq_nx e2 (seq_nx e3 (seq_nx e4 e5))
  show (match b__law_lowest [.im (.int a), .im (.int b), .no, .no] with
    | .bad => (R.bad : R RV)
    | .ok f ρ => mRet [.im (.int a), .im (.int b)] f ρ
    | .ex e ρ => .ex e (outs [.im (.int a), .im (.int b)] ρ)) = _
  rw [show b__law_lowest [.im (.int a), .im (.int b), .no, .no] = _ from e]
  rfl
end Kx

/- part -/
set_option Elab.async false
set_option linter.all false
set_option maxRecDepth 100000
set_option maxHeartbeats 8000000
namespace Kx
open PySem DL PyProof.Rows
mutual
def sg : Nat → D → Bool
  | 0, _ => false
  | _ + 1, .non => true
  | _ + 1, .bl _ => true
  | _ + 1, .int _ => true
  | _ + 1, .str x => okc (.str x)
  | n + 1, .tup ds => decide (ds.length ≤ 1000000) && sgs n ds
  | n + 1, .lst ds => decide (ds.length ≤ 1000000) && sgs n ds
  | _ + 1, _ => false
def sgs : Nat → List D → Bool
  | _, [] => true
  | n, d :: r => sg n d && sgs n r
end
theorem sgs_mem {n : Nat} : ∀ {ds : List D}, sgs n ds = true → ∀ d ∈ ds, sg n d = true
  | d :: r, h, x, hx => by
    unfold sgs at h
    obtain ⟨h1, h2⟩ := Bool.and_eq_true_iff.mp h
    rcases List.mem_cons.mp hx with rfl | hx
    · exact h1
    · exact sgs_mem h2 x hx
theorem same_self : ∀ (n : Nat) (d : D), sg n d = true → m__law_same n [.im d, .im d] = .ok (.im (.bl true)) [.im d, .im d]
  | 0, d, h => by
    unfold sg at h
    cases h
  | n + 1, d, h => by
    have seq : ∀ ds : List D, ds.length ≤ 1000000 → sgs n ds = true → ∀ (a b : SV), cLoop [2, 3] (tgTup 2 (tgCons (tgName 2) (tgCons (tgName 3) tgNil))) tYesD (dCall 2 [] (m__law_same n) (aCons (dVar 2) (aCons (dVar 3) aNil))) (zipD ds ds) [] [a, b, .no, .no] = .ok ((zipD ds ds).map fun _ => .bl true) [a, b, .no, .no] := fun ds hl hs a b => by
      refine (cLoop_map (f := fun _ => .bl true) rfl (fun d hd => ?_) (by
        unfold zipD
        rw [List.length_zipWith]
        simp
        omega)).trans (by rw [List.nil_append])
      obtain ⟨i, hi⟩ := List.mem_iff_getElem?.mp hd
      obtain ⟨x, y, h1, h2, rfl⟩ := DL.zip_get hi
      rw [h1] at h2
      cases h2
      have e := same_self n x (sgs_mem hs x (List.mem_of_getElem? h1))
      refine Wp.eq ?_
      simp [e, rest]
    have es : m__law_same (n + 1) = mFn n__law_same.length (b__law_same (m__law_same n)) := rfl
    rw [es]
    refine Wp.eq (wp_fn ?_)
    cases d with
    | non => simp [b__law_same, isND, isNone]
    | bl b => simp [b__law_same, isND, isNone, isT]
    | int i => simp [b__law_same, isND, isNone, isT]
    | str x =>
      have ok : SOk x := by
        unfold sg at h
        exact h
      simp [b__law_same, isND, isNone, isT, eqD_strA ok ok]
    | tup ds =>
      unfold sg at h
      obtain ⟨h1, h2⟩ := Bool.and_eq_true_iff.mp h
      have s := seq ds (of_decide_eq_true h1) h2
      simp [b__law_same, isND, isNone, isT, s, gAll, asBls_trues]
    | lst ds =>
      unfold sg at h
      obtain ⟨h1, h2⟩ := Bool.and_eq_true_iff.mp h
      have s := seq ds (of_decide_eq_true h1) h2
      simp [b__law_same, isND, isNone, isT, s, gAll, asBls_trues]
    | _ =>
      unfold sg at h
      cases h
end Kx

/- part -/
set_option Elab.async false
set_option linter.all false
set_option maxRecDepth 100000
set_option maxHeartbeats 8000000
namespace Kx
open PySem DL PyProof.Rows
theorem sok_of {x : Str} (h : x.cps.all (· < 0x110000) = true) : SOk x := by
  have e1 : plain 64 (.str x) = true := rfl
  have e2 : SeqAt.shaped (toPy (.str x)) = true := by
    have a1 : (PyData.str x).canLay0 = true := h
    have a2 : (PyData.str x).depth ≤ 64 := by
      show _ ≤ _
      simp [PyData.depth]
    show (PyData.canLay0 (PyData.str x) && decide ((PyData.str x).depth ≤ 64)) = true
    rw [a1, decide_eq_true a2]
    rfl
  show (plain 64 (.str x) && SeqAt.shaped (toPy (.str x))) = true
  rw [e1, e2]
  rfl
theorem sok_lit (s : String) : (Str.ofString s).cps.all (· < 0x110000) = true := by
  rw [Str.ofString_eq_toList]
  rw [Array.all_eq_true']
  intro c hc
  have hc : c ∈ (s.toList.map Char.toNat).toArray := hc
  obtain ⟨ch, _, rfl⟩ := List.mem_map.mp (by simpa using hc)
  have := ch.valid
  have h2 : ch.toNat < 0x110000 := by
    rcases this with z | ⟨_, z⟩
    · exact Nat.lt_trans z (by decide)
    · exact z
  exact decide_eq_true h2
theorem fr_pos {a b : Int} (hb : 0 < b) : frD a b = .tup [.int (a / gI a b), .int (b / gI a b)] := by
  have g0 : 0 ≤ gI a b := by
    show (0 : Int) ≤ (Nat.gcd a.natAbs b.natAbs : Nat)
    omega
  unfold frD nI dI
  rw [if_neg (by omega), if_neg (by omega), Int.fdiv_eq_ediv_of_nonneg _ g0, Int.fdiv_eq_ediv_of_nonneg _ g0]
theorem gI_pos {a b : Int} (hb : 0 < b) : 0 < gI a b := by
  have : 0 < Nat.gcd a.natAbs b.natAbs := Nat.gcd_pos_of_pos_right _ (by omega)
  show (0 : Int) < (Nat.gcd a.natAbs b.natAbs : Nat)
  omega
theorem fr_parts {a b : Int} (hb : 0 < b) : ∃ n d : Int, frD a b = .tup [.int n, .int d] ∧ 0 < d ∧ d ≤ b ∧ n * b = a * d ∧ n.natAbs ≤ a.natAbs := by
  have g0 := gI_pos (a := a) hb
  have d1 : gI a b ∣ a := by
    unfold gI
    exact Int.ofNat_dvd_left.mpr (Nat.gcd_dvd_left _ _)
  have d2 : gI a b ∣ b := by
    unfold gI
    exact Int.ofNat_dvd_left.mpr (Nat.gcd_dvd_right _ _)
  obtain ⟨p, hp⟩ := d1
  obtain ⟨q, hq⟩ := d2
  have e1 : a / gI a b = p := by
    rw [Int.ediv_eq_of_eq_mul_right (by omega) hp]
  have e2 : b / gI a b = q := by
    rw [Int.ediv_eq_of_eq_mul_right (by omega) hq]
  have q0 : 0 < q := by
    by_cases z : 0 < q
    · exact z
    · have := Int.mul_le_mul_of_nonneg_left (show q ≤ 0 by omega) (show 0 ≤ gI a b by omega)
      omega
  refine ⟨p, q, by rw [fr_pos hb, e1, e2], q0, ?_, ?_, ?_⟩
  · have : 1 * q ≤ gI a b * q := Int.mul_le_mul_of_nonneg_right (by omega) (by omega)
    omega
  · have h1 : p * b = p * (gI a b * q) := by rw [← hq]
    have h2 : a * q = gI a b * p * q := by rw [← hp]
    rw [h1, h2, ← Int.mul_assoc, Int.mul_comm p]
  · have : a.natAbs = (gI a b).natAbs * p.natAbs := by rw [← Int.natAbs_mul, ← hp]
    have h3 : 1 ≤ (gI a b).natAbs := by omega
    have := Nat.mul_le_mul_right p.natAbs h3
    omega
@[simp] theorem unl_fr {a b : Int} : unl (frD a b) = frD a b := rfl
def qD (q : Rat) : D := .tup [.int q.num, .int (q.den : Int)]
theorem frD_rat {a b : Int} (hb : 0 < b) : frD a b = qD ((a : Rat) / (b : Rat)) := by
  rw [fr_pos hb, ← Rat.divInt_eq_div]
  unfold qD
  rw [Rat.num_divInt, Rat.den_divInt, if_neg (by omega), Int.sign_eq_one_of_pos hb, Int.one_mul]
  have e : gI a b = ((b.gcd a : Nat) : Int) := by
    unfold gI
    rw [Nat.gcd_comm]
    rfl
  rw [e, Int.natCast_ediv, Int.natAbs_of_nonneg (by omega)]
def Qz (k : Nat) (q : Rat) : Prop := q.num.natAbs < 2 ^ k ∧ q.den < 2 ^ k
theorem Qz.mono {k j : Nat} {q : Rat} (h : Qz k q) (hk : k ≤ j) : Qz j q := ⟨Nat.lt_of_lt_of_le h.1 (Nat.pow_le_pow_right (by decide) hk), Nat.lt_of_lt_of_le h.2 (Nat.pow_le_pow_right (by decide) hk)⟩
theorem Qz.sn {k : Nat} {q : Rat} (h : Qz k q) (hk : k ≤ 100000) : Sml q.num := Sml.of (k := k + 1) (Nat.lt_of_lt_of_le h.1 (Nat.pow_le_pow_right (by decide) (by omega))) (by omega) (by omega)
theorem Qz.sd {k : Nat} {q : Rat} (h : Qz k q) (hk : k ≤ 100000) : Sml (q.den : Int) := Sml.of (k := k + 1) (Nat.lt_of_lt_of_le (by simpa using h.2) (Nat.pow_le_pow_right (by decide) (by omega))) (by omega) (by omega)
theorem den_pos (q : Rat) : 0 < (q.den : Int) := by
  have := q.den_pos
  omega
theorem den2_pos (x y : Rat) : 0 < (x.den : Int) * (y.den : Int) := Int.mul_pos (den_pos x) (den_pos y)
theorem cast_den2 (x y : Rat) : (((x.den : Int) * (y.den : Int) : Int) : Rat) = ((x.den * y.den : Nat) : Rat) := by
  rw [← Int.natCast_mul]
  rfl
theorem fr_sub (x y : Rat) : frD (x.num * (y.den : Int) - y.num * (x.den : Int)) ((x.den : Int) * (y.den : Int)) = qD (x - y) := by
  rw [frD_rat (den2_pos x y), Rat.sub_def', Rat.mkRat_eq_div, cast_den2]
theorem fr_add (x y : Rat) : frD (x.num * (y.den : Int) + y.num * (x.den : Int)) ((x.den : Int) * (y.den : Int)) = qD (x + y) := by
  rw [frD_rat (den2_pos x y), Rat.add_def', Rat.mkRat_eq_div, cast_den2]
theorem fr_mul (x y : Rat) : frD (x.num * y.num) ((x.den : Int) * (y.den : Int)) = qD (x * y) := by
  rw [frD_rat (den2_pos x y), Rat.mul_def', Rat.mkRat_eq_div, cast_den2]
theorem Qz.int {k : Nat} {d : Int} (h : d.natAbs < 2 ^ k) (hk : 0 < k) : Qz k (d : Rat) := ⟨h, Nat.one_lt_two_pow (by omega)⟩
@[simp] theorem unl_q {q : Rat} : unl (qD q) = qD q := rfl
def Imm (x : SV) : Prop := x = .no ∨ ∃ d, x = .im d
theorem Imm.nio {x : SV} (h : Imm x) : Nio x := by
  rcases h with rfl | ⟨d, rfl⟩
  · exact nio_no
  · exact nio_im
theorem imm_im {d : D} : Imm (.im d) := .inr ⟨d, rfl⟩
section
variable {α : Type} {vs : List Nat} {gm : D → SE → R Unit} {mt : DM Bool} {me : DM RV} {Q : List D → SE → Prop} {E : Exc → SE → Prop} {ds : List D} {ρ : SE}
theorem wp_cmapG (g f : α → D) (xs : List α) (hds : ds = xs.map g) (hn : noOw ρ vs = true) (hz : xs.length ≤ 1000000) (h : ∀ a ∈ xs, WP (cTurn vs gm mt me (g a) ρ) (fun o ρ1 => o = some (f a) ∧ ρ1 = ρ) noX) (k : Q (xs.map f) ρ) : WP (cLoop vs gm mt me ds [] ρ) Q E := by
  subst hds
  refine wp_cloopJ (fun i acc ρ1 => acc = (xs.take i).map f ∧ ρ1 = ρ) (by simpa using hz) ⟨rfl, rfl⟩ ?_ ?_ ?_
  · rintro i acc ρ1 ⟨rfl, rfl⟩
    exact ⟨hn, by rw [List.length_map, List.length_take]; omega⟩
  · rintro i d acc ρ1 J hi ⟨rfl, rfl⟩ hJ
    rw [List.getElem?_map] at hi
    obtain ⟨a, ha, rfl⟩ := Option.map_eq_some_iff.mp hi
    obtain ⟨li, ea⟩ := List.getElem?_eq_some_iff.mp ha
    have e := Wp.eq (h a (List.mem_of_getElem? ha))
    refine .of e (hJ _ _ ⟨?_, rfl⟩)
    rw [List.take_succ_eq_append_getElem li, ea, List.map_append]
    rfl
  · rintro acc ρ1 ⟨rfl, rfl⟩
    rw [List.length_map, List.take_length]
    exact k
end
end Kx

/- part -/
set_option Elab.async false
set_option linter.all false
set_option maxRecDepth 100000
set_option maxHeartbeats 8000000
namespace Kx
open PySem DL PyProof.Rows
abbrev abc : Str := "abcdefghijklmnopqrstuvwxyz"
def tx (l : List Nat) : Str := ⟨l.toArray⟩
def lowc (c : Nat) : Bool := decide (97 ≤ c) && decide (c ≤ 122)
def NmOk (x : Str) : Prop := (∀ c ∈ x.cps.toList, lowc c = true) ∧ 2 ≤ x.length ∧ x.length ≤ 8 ∧ x ≠ "abs" ∧ x ≠ "max" ∧ x ≠ "min"
theorem tx_cps {l : List Nat} : (tx l).cps.toList = l := rfl
theorem tx_len {l : List Nat} : (tx l).length = l.length := rfl
theorem tx_app {l m : List Nat} : tx l ++ tx m = tx (l ++ m) := by
  show Str.mk (l.toArray ++ m.toArray) = Str.mk (l ++ m).toArray
  congr 1
  simp
theorem tx_inj {l m : List Nat} (h : tx l = tx m) : l = m := by
  have := congrArg (fun x : Str => x.cps.toList) h
  exact this
theorem low_okc {x : Str} (h : ∀ c ∈ x.cps.toList, lowc c = true) : x.cps.all (· < 0x110000) = true := by
  rw [Array.all_eq_true']
  intro c hc
  have := h c (by simpa using hc)
  unfold lowc at this
  simp at this
  exact decide_eq_true (by omega)
theorem NmOk.okc {x : Str} (h : NmOk x) : x.cps.all (· < 0x110000) = true := low_okc h.1
theorem letters_ok : m__law_letters [] = .ok (.im (.str abc)) [] := by
  refine Wp.eq (wp_fn ?_)
  simp [b__law_letters]
theorem strs_signs : ∀ cs : List Nat, strsO (cs.map fun c => D.str ⟨#[c]⟩) = some (cs.map fun c => (⟨#[c]⟩ : Str))
  | [] => rfl
  | c :: cs => by
    show (strsO (cs.map fun c => D.str ⟨#[c]⟩)).map _ = _
    rw [strs_signs cs]
    rfl
theorem join_signs : ∀ cs : List Nat, Txt.join "" (cs.map fun c => (⟨#[c]⟩ : Str)) = tx cs := fun cs => by
  show Builtin.Str.glued "" _ = _
  rw [PySem.StrLaws.glued_eq_join]
  induction cs with
  | nil => rfl
  | cons c cs ih =>
    cases cs with
    | nil => rfl
    | cons d cs =>
      have e : Str.join "" ((⟨#[c]⟩ : Str) :: (⟨#[d]⟩ : Str) :: cs.map fun c => (⟨#[c]⟩ : Str)) = (⟨#[c]⟩ : Str) ++ "" ++ Str.join "" ((⟨#[d]⟩ : Str) :: cs.map fun c => (⟨#[c]⟩ : Str)) := rfl
      rw [List.map_cons] at ih
      rw [List.map_cons, List.map_cons, e, ih]
      have e2 : (⟨#[c]⟩ : Str) ++ Str.ofString "" = tx [c] := by
        show Str.mk (#[c] ++ (Str.ofString "").cps) = _
        have : (Str.ofString "").cps = #[] := by decide +kernel
        rw [this]
        rfl
      rw [e2, tx_app]
      rfl
theorem join_tx {cs : List Nat} (h : cs.length ≤ 1000000) : joinD (.str "") (.lst (cs.map fun c => D.str ⟨#[c]⟩)) = some (.im (.str (tx cs))) := by
  show (strsO _).bind _ = _
  rw [strs_signs]
  have e0 : (Str.ofString "").length = 0 := by decide +kernel
  have e1 : ∀ cs : List Nat, ((cs.map fun c => (⟨#[c]⟩ : Str)).map (·.length)).sum = cs.length := fun cs => by
    induction cs with
    | nil => rfl
    | cons c cs ih =>
      rw [List.map_cons, List.map_cons, List.sum_cons, ih, List.length_cons]
      show 1 + _ = _
      omega
  show (if ((cs.map fun c => (⟨#[c]⟩ : Str)).map (·.length)).sum + (cs.map fun c => (⟨#[c]⟩ : Str)).length * (Str.ofString "").length ≤ 16777216 then some (RV.im (.str (Txt.join "" (cs.map fun c => (⟨#[c]⟩ : Str))))) else none) = _
  rw [if_pos (by rw [e1, e0]; omega), join_signs]
theorem cut_to {l : List Nat} {k : Nat} (h : k ≤ l.length) : L2.cutS (tx l) none (some (k : Int)) = tx (l.take k) := by
  unfold L2.cutS
  have e : HT.sIx (tx l).length (tx l).length (some (k : Int)) = k := by
    have := HT.sIx_nat (tx l).length (tx l).length k
    rw [this, tx_len]
    omega
  rw [e, HT.sIx_none]
  simp [tx]
theorem cut_from {l : List Nat} {k : Nat} (h : k ≤ l.length) : L2.cutS (tx l) (some (k : Int)) none = tx (l.drop k) := by
  unfold L2.cutS
  have e : HT.sIx (tx l).length 0 (some (k : Int)) = k := by
    have := HT.sIx_nat (tx l).length 0 k
    rw [this, tx_len]
    omega
  have e2 : (l.drop k).take (l.length - k) = l.drop k := List.take_of_length_le (by rw [List.length_drop]; exact Nat.le_refl _)
  rw [e, HT.sIx_none, tx_len, tx_cps, e2]
  rfl
theorem sl_str {x : Str} {lo hi : Option Int} (h : x.length ≤ 1000000) : slD (.str x) lo hi = some (.im (.str (L2.cutS x lo hi))) := by
  show (if _ then _ else none) = _
  rw [if_pos h]
theorem abc_at {i : Int} (h0 : 0 ≤ i) (h1 : i < 26) : ixD (.str abc) (.int i) = some (.im (.str ⟨#[(97 + i).toNat]⟩)) := by
  obtain ⟨n, rfl⟩ := Int.eq_ofNat_of_zero_le h0
  have h1 : n < 26 := by omega
  have el : abc.cps.toList = (List.range 26).map (97 + ·) := by decide +kernel
  have ea : abc.length ≤ 1000000 := by
    have : abc.length = 26 := by decide +kernel
    omega
  show (if abc.length ≤ 1000000 then (L2.atI abc.cps.toList (n : Int)).map fun c => RV.im (.str ⟨#[c]⟩) else none) = _
  rw [if_pos ea, el, L2.atI_nat (v := 97 + n) (by rw [List.getElem?_map, List.getElem?_range h1]; rfl)]
  show some (RV.im (.str ⟨#[97 + n]⟩)) = _
  congr 5
end Kx

/- part -/
set_option Elab.async false
set_option linter.all false
set_option maxRecDepth 100000
set_option maxHeartbeats 8000000
namespace Kx
open PySem DL PyProof.Rows
theorem low_let {i : Int} (h0 : 0 ≤ i) (h1 : i < 26) : lowc (97 + i).toNat = true := by
  unfold lowc
  simp
  omega
theorem pick_abc {r : List D} {Q : RV → SE → Prop} {E : Exc → SE → Prop} (hr : RngOk r) (k : ∀ c r', lowc c = true → RngOk r' → Q (.im (.str ⟨#[c]⟩)) [.ow true (.ls r'), .im (.str abc)]) : WP (m__law_pick [.ow true (.ls r), .im (.str abc)]) Q E := by
  have ha : abc.length = 26 := by decide +kernel
  refine wp_fn ?_
  simp [b__law_pick, gLen_str (show abc.length ≤ 1000000 by omega), ha]
  refine draw_wp hr (by omega) (by omega) fun i r' h0 h1 hr' => ?_
  simp [abc_at h0 h1]
  exact k _ r' (low_let h0 h1) hr'
theorem name_of {base : List Nat} {k : Nat} {c : Nat} (hb : ∀ c ∈ base, lowc c = true) (hk : k < base.length) (hc : lowc c = true) : (∀ d ∈ base.take k ++ [c] ++ base.drop (k + 1), lowc d = true) ∧ (base.take k ++ [c] ++ base.drop (k + 1)).length = base.length := by
  refine ⟨fun d hd => ?_, ?_⟩
  · rw [List.mem_append, List.mem_append, List.mem_singleton] at hd
    rcases hd with (hd | rfl) | hd
    · exact hb d (List.mem_of_mem_take hd)
    · exact hc
    · exact hb d (List.mem_of_mem_drop hd)
  · simp
    omega
theorem in_names {x : Str} {l : List Str} (hx : x.cps.all (· < 0x110000) = true) (h : ∀ y ∈ l, y.cps.all (· < 0x110000) = true) : inD false (.str x) (.lst (l.map D.str)) = some (.im (.bl (decide (x ∈ l)))) := by
  have p : ∀ (l : List Str), (∀ y ∈ l, y.cps.all (· < 0x110000) = true) → pgs 1 (l.map D.str) = true := fun l h => by
    induction l with
    | nil => unfold pgs; rfl
    | cons y l ih =>
      rw [List.map_cons]
      unfold pgs
      rw [ih fun z hz => h z (List.mem_cons_of_mem _ hz)]
      unfold pg
      rw [h y List.mem_cons_self]
      rfl
  have ok1 : okc (.str x) = true := okc_of (n := 1) (by unfold pg; exact hx) (by decide)
  have ok2 : okc (.lst (l.map D.str)) = true := okc_of (n := 2) (by unfold pg; exact p l h) (by decide)
  show (if (okc (.str x) && okc (.lst (l.map D.str))) = true then some (RV.im (.bl (false != (l.map D.str).any fun y => eqv y (.str x)))) else none) = _
  rw [ok1, ok2, if_pos (by rfl), List.any_map, Bool.false_bne]
  congr 3
  rw [Bool.eq_iff_iff, List.any_eq_true, decide_eq_true_iff]
  constructor
  · rintro ⟨y, hy, e⟩
    have : y = x := eq_of_beq (show (y == x) = true from e)
    exact this ▸ hy
  · exact fun m => ⟨x, m, show (x == x) = true from beq_self_eq_true x⟩
theorem ends_q {x : Str} : x ++ Str.ofString "q" ≠ "abs" ∧ x ++ Str.ofString "q" ≠ "max" ∧ x ++ Str.ofString "q" ≠ "min" := by
  have e : ∀ (y : Str), (x ++ Str.ofString "q" = y) → y.cps.toList.getLast? = some 113 := fun y h => by
    rw [← h]
    show (x.cps ++ #[113]).toList.getLast? = _
    simp
  refine ⟨fun h => ?_, fun h => ?_, fun h => ?_⟩ <;> · have := e _ h; revert this; decide +kernel
end Kx

/- part -/
set_option Elab.async false
set_option linter.all false
set_option maxRecDepth 100000
set_option maxHeartbeats 8000000
namespace Kx
open PySem DL PyProof.Rows
inductive Bo where
  | add | sub | mx | mn
def boS : Bo → Str
  | .add => "add"
  | .sub => "subtract"
  | .mx => "max"
  | .mn => "min"
inductive Ex where
  | x | num (q : Rat) | ab (e : Ex) | mul (q : Rat) (e : Ex) | call (f : Str) (e : Ex) | bin (o : Bo) (a b : Ex)
def exD : Ex → D
  | .x => .tup [.str "x"]
  | .num q => .tup [.str "number", qD q]
  | .ab e => .tup [.str "abs", exD e]
  | .mul q e => .tup [.str "multiple", qD q, exD e]
  | .call f e => .tup [.str "call", .str f, exD e]
  | .bin o a b => .tup [.str (boS o), exD a, exD b]
def exH : Ex → Nat
  | .x => 1
  | .num _ => 1
  | .ab e => exH e + 1
  | .mul _ e => exH e + 1
  | .call _ e => exH e + 1
  | .bin _ a b => max (exH a) (exH b) + 1
def exC : Ex → List Str
  | .x => []
  | .num _ => []
  | .ab e => exC e
  | .mul _ e => exC e
  | .call f e => f :: exC e
  | .bin _ a b => exC a ++ exC b
def F6 (q : Rat) : Prop := q.num.natAbs < 1000000 ∧ q.den < 1000000
def ExOk (P : Str → Prop) : Ex → Prop
  | .x => True
  | .num q => F6 q
  | .ab e => ExOk P e
  | .mul q e => F6 q ∧ ExOk P e
  | .call f e => P f ∧ ExOk P e
  | .bin _ a b => ExOk P a ∧ ExOk P b
theorem exH_pos : ∀ e : Ex, 1 ≤ exH e
  | .x => Nat.le_refl _
  | .num _ => Nat.le_refl _
  | .ab e => by unfold exH; omega
  | .mul _ e => by unfold exH; omega
  | .call _ e => by unfold exH; omega
  | .bin _ a b => by unfold exH; omega
theorem exC_len : ∀ e : Ex, (exC e).length + 1 ≤ 2 ^ exH e
  | .x => by decide
  | .num _ => by
    unfold exC exH
    decide
  | .ab e => by
    have := exC_len e
    unfold exC exH
    rw [Nat.pow_succ]
    omega
  | .mul _ e => by
    have := exC_len e
    unfold exC exH
    rw [Nat.pow_succ]
    omega
  | .call f e => by
    have := exC_len e
    unfold exC exH
    rw [Nat.pow_succ, List.length_cons]
    have : 1 ≤ 2 ^ exH e := Nat.one_le_two_pow
    omega
  | .bin _ a b => by
    have h1 := exC_len a
    have h2 := exC_len b
    have p1 : 2 ^ exH a ≤ 2 ^ max (exH a) (exH b) := Nat.pow_le_pow_right (by decide) (Nat.le_max_left _ _)
    have p2 : 2 ^ exH b ≤ 2 ^ max (exH a) (exH b) := Nat.pow_le_pow_right (by decide) (Nat.le_max_right _ _)
    unfold exC exH
    rw [Nat.pow_succ, List.length_append]
    omega
theorem exC_mem {P : Str → Prop} : ∀ {e : Ex}, ExOk P e → ∀ f ∈ exC e, P f
  | .x, _, f, h => by cases h
  | .num _, _, f, h => by cases h
  | .ab e, h, f, hf => exC_mem (e := e) h f hf
  | .mul _ e, h, f, hf => exC_mem (e := e) h.2 f hf
  | .call g e, h, f, hf => by
    rcases List.mem_cons.mp hf with rfl | hf
    · exact h.1
    · exact exC_mem (e := e) h.2 f hf
  | .bin _ a b, h, f, hf => by
    rcases List.mem_append.mp hf with hf | hf
    · exact exC_mem (e := a) h.1 f hf
    · exact exC_mem (e := b) h.2 f hf
theorem ExOk.mono {P R : Str → Prop} (i : ∀ x, P x → R x) : ∀ {e : Ex}, ExOk P e → ExOk R e
  | .x, h => h
  | .num _, h => h
  | .ab e, h => ExOk.mono i (e := e) h
  | .mul _ e, h => ⟨h.1, ExOk.mono i (e := e) h.2⟩
  | .call g e, h => ⟨i _ h.1, ExOk.mono i (e := e) h.2⟩
  | .bin _ a b, h => ⟨ExOk.mono i (e := a) h.1, ExOk.mono i (e := b) h.2⟩
@[simp] theorem unl_ex {e : Ex} : unl (exD e) = exD e := by
  cases e <;> rfl
theorem low_rat {a b : Int} (hb : 0 < b) (hz : b < 1000000) : m__law_lowest [.im (.int a), .im (.int b)] = .ok (.im (qD ((a : Rat) / (b : Rat)))) [.im (.int a), .im (.int b)] := by
  rw [← frD_rat hb]
  exact low_ok (by omega) (Nat.lt_trans (show b.natAbs < 2 ^ 20 by omega) (Nat.pow_lt_pow_right (by decide) (by decide)))
theorem rat_six {a b : Int} (hb : 0 < b) (hz : b < 1000000) (ha : a.natAbs < 1000000) : F6 ((a : Rat) / (b : Rat)) := by
  obtain ⟨n, d, e, d0, d1, _, n1⟩ := fr_parts (a := a) hb
  rw [frD_rat hb] at e
  unfold qD at e
  simp only [D.tup.injEq, List.cons.injEq, D.int.injEq, and_true] at e
  obtain ⟨e1, e2⟩ := e
  exact ⟨by rw [e1]; omega, by omega⟩
section
variable {r : List D} {Q : RV → SE → Prop} {E : Exc → SE → Prop}
theorem tfrac_wp (hr : RngOk r) (k : ∀ q r', F6 q → RngOk r' → Q (.im (qD q)) [.ow true (.ls r')]) : WP (m__law_text_fraction [.ow true (.ls r)]) Q E := by
  refine wp_fn ?_
  simp [b__law_text_fraction]
  refine draw_wp hr (by omega) (by omega) fun k1 r1 a1 a2 hr1 => ?_
  simp
  refine pick_wp hr1 (by simp) (by simp) fun d r2 hd hr2 => ?_
  obtain ⟨b, rfl, b1, b2⟩ : ∃ b : Int, d = .int b ∧ 0 < b ∧ b < 1000000 := by
    simp only [List.mem_cons, List.not_mem_nil, or_false] at hd
    rcases hd with rfl | rfl | rfl | rfl | rfl | rfl | rfl
    all_goals exact ⟨_, rfl, by omega, by omega⟩
  simp
  refine pick_wp hr2 (by simp) (by simp) fun d r3 hd hr3 => ?_
  obtain ⟨n, rfl, n1, n2⟩ : ∃ n : Int, d = .int n ∧ 4 ≤ n ∧ n ≤ 499999 := by
    simp only [List.mem_cons, List.not_mem_nil, or_false] at hd
    rcases hd with rfl | rfl | rfl
    all_goals exact ⟨_, rfl, by omega, by omega⟩
  have sn : Sml n := .of (k := 64) (by omega) (by decide) (by decide)
  have s2 : Sml 2 := by unfold Sml; decide +kernel
  simp [sn, s2]
  refine draw_wp hr3 (by omega) (by omega) fun t r4 t1 t2 hr4 => ?_
  simp [low_rat (a := t - 4) b1 b2]
  exact k _ r4 (by simpa using rat_six (a := t - 4) b1 b2 (by omega)) hr4
theorem ne_nil {ns : List Str} (hn : ∀ x ∈ ns, x.cps.all (· < 0x110000) = true) : neD (.lst (ns.map D.str)) (.lst []) = some (.im (.bl (decide (ns ≠ [])))) := by
  have p : ∀ (l : List Str), (∀ y ∈ l, y.cps.all (· < 0x110000) = true) → pgs 1 (l.map D.str) = true := fun l h => by
    induction l with
    | nil => unfold pgs; rfl
    | cons y l ih =>
      rw [List.map_cons]
      unfold pgs
      rw [ih fun z hz => h z (List.mem_cons_of_mem _ hz)]
      unfold pg
      rw [h y List.mem_cons_self]
      rfl
  have o1 : okc (.lst (ns.map D.str)) = true := okc_of (n := 2) (by unfold pg; exact p ns hn) (by decide)
  have o2 : okc (.lst []) = true := by rfl
  unfold neD
  rw [if_pos (by rw [o1, o2]; rfl)]
  cases ns with
  | nil => rfl
  | cons x r => rfl
theorem expr_wp {ns : List Str} (hn : ∀ x ∈ ns, x.cps.all (· < 0x110000) = true) (hl : ns.length ≤ 1000) : ∀ (n : Nat) {r : List D} {k : Int} {Q : RV → SE → Prop} {E : Exc → SE → Prop}, RngOk r → 1 ≤ k → k ≤ n → k ≤ 1000 →
    (∀ e r', ExOk (· ∈ ns) e → (exH e : Int) ≤ k → RngOk r' → Q (.im (exD e)) [.ow true (.ls r'), .im (.lst (ns.map D.str)), .im (.int k)]) → WP (m__law_expression n [.ow true (.ls r), .im (.lst (ns.map D.str)), .im (.int k)]) Q E
  | 0, r, k, Q, E, hr, h1, h2, _, _ => by omega
  | n + 1, r, k, Q, E, hr, h1, h2, h3, K => by
    have ih : ∀ {r' : List D} {Q' : RV → SE → Prop} {E' : Exc → SE → Prop}, RngOk r' → 2 ≤ k → (∀ e r', ExOk (· ∈ ns) e → (exH e : Int) + 1 ≤ k → RngOk r' → Q' (.im (exD e)) [.ow true (.ls r'), .im (.lst (ns.map D.str)), .im (.int (k - 1))]) → WP (m__law_expression n [.ow true (.ls r'), .im (.lst (ns.map D.str)), .im (.int (k - 1))]) Q' E' := fun hr' g K' =>
      expr_wp hn hl n hr' (by omega) (by omega) (by omega) fun e r' a b c => K' e r' a (by omega) c
    have es : m__law_expression (n + 1) = mFn n__law_expression.length (b__law_expression (m__law_expression n)) := rfl
    rw [es]
    refine wp_fn ?_
    simp [b__law_expression]
    refine draw_wp hr (by omega) (by omega) fun w r1 w1 w2 hr1 => ?_
    simp
    by_cases c0 : k < 2
    · simp [c0]
      refine tfrac_wp hr1 fun q r2 hq hr2 => ?_
      simp
      refine pick_wp hr2 (by simp) (by simp) fun d r3 hd hr3 => ?_
      simp
      have h2' : d = exD .x ∨ d = exD (.num q) := by
        simp only [List.mem_cons, List.not_mem_nil, or_false] at hd
        rcases hd with rfl | rfl | rfl
        · exact .inl rfl
        · exact .inl rfl
        · exact .inr rfl
      rcases h2' with rfl | rfl
      · exact K .x r3 trivial (by unfold exH; omega) hr3
      · exact K (.num q) r3 hq (by unfold exH; omega) hr3
    by_cases c1 : w = 0
    · simp [c0, c1]
      refine tfrac_wp hr1 fun q r2 hq hr2 => ?_
      simp
      refine pick_wp hr2 (by simp) (by simp) fun d r3 hd hr3 => ?_
      simp
      have h2' : d = exD .x ∨ d = exD (.num q) := by
        simp only [List.mem_cons, List.not_mem_nil, or_false] at hd
        rcases hd with rfl | rfl | rfl
        · exact .inl rfl
        · exact .inl rfl
        · exact .inr rfl
      rcases h2' with rfl | rfl
      · exact K .x r3 trivial (by unfold exH; omega) hr3
      · exact K (.num q) r3 hq (by unfold exH; omega) hr3
    by_cases c2 : w = 1
    · simp [c0, c2]
      refine ih hr1 (by omega) fun e r2 a b c => ?_
      simp
      exact K (.ab e) r2 a b c
    by_cases c3 : w = 2
    · simp [c0, c3]
      refine tfrac_wp hr1 fun q r2 hq hr2 => ?_
      simp
      refine ih hr2 (by omega) fun e r3 a b c => ?_
      simp
      exact K (.mul q e) r3 ⟨hq, a⟩ b c
    by_cases c4 : w = 3
    · simp [c0, c4]
      refine tfrac_wp hr1 fun q r2 hq hr2 => ?_
      simp
      refine ih hr2 (by omega) fun e r3 a b c => ?_
      simp
      exact K (.mul q e) r3 ⟨hq, a⟩ b c
    by_cases c5 : 7 < w ∧ ns ≠ []
    · simp [c0, c1, c2, c3, c4, c5.1, ne_nil hn, c5.2]
      refine pick_wp hr1 (by simpa using List.length_pos_iff.mpr c5.2) (by simp; omega) fun d r2 hd hr2 => ?_
      obtain ⟨f, hf, rfl⟩ := List.mem_map.mp hd
      simp
      refine ih hr2 (by omega) fun e r3 a b c => ?_
      simp
      exact K (.call f e) r3 ⟨hf, a⟩ b c
    · have tail : ∀ r1, RngOk r1 → WP (m__law_pick [.ow true (.ls r1), .im (.lst [.str "add", .str "subtract", .str "max", .str "min"])]) (fun x ρ => ∃ o r', x = .im (.str (boS o)) ∧ RngOk r' ∧ ρ = [.ow true (.ls r'), .im (.lst [.str "add", .str "subtract", .str "max", .str "min"])]) noX := fun r1 hr1 =>
        pick_wp hr1 (by simp) (by simp) fun d r' hd hr' => by
          simp only [List.mem_cons, List.not_mem_nil, or_false] at hd
          rcases hd with rfl | rfl | rfl | rfl
          · exact ⟨.add, r', rfl, hr', rfl⟩
          · exact ⟨.sub, r', rfl, hr', rfl⟩
          · exact ⟨.mx, r', rfl, hr', rfl⟩
          · exact ⟨.mn, r', rfl, hr', rfl⟩
      have sh : ∀ (o : Bo) (a b : Ex), exH a + 1 ≤ k → exH b + 1 ≤ k → ((exH (.bin o a b) : Nat) : Int) ≤ k := fun o a b h1 h2 => by
        show ((max (exH a) (exH b) + 1 : Nat) : Int) ≤ k
        omega
      by_cases c6 : 7 < w
      · have e0 : ns = [] := Decidable.byContradiction fun z => c5 ⟨c6, z⟩
        subst e0
        have ne := ne_nil (ns := []) hn
        simp at ne
        simp [c0, c1, c2, c3, c4, c6, ne]
        refine Wp.mono (tail r1 hr1) ?_ (fun _ _ z => z.elim)
        rintro _ _ ⟨o, r2, rfl, hr2, rfl⟩
        simp
        refine ih hr2 (by omega) fun e r3 a b c => ?_
        simp
        refine ih c (by omega) fun e' r4 a' b' c' => ?_
        simp
        exact K (.bin o e e') r4 ⟨a, a'⟩ (sh o e e' b b') c'
      · simp [c0, c1, c2, c3, c4, c6]
        refine Wp.mono (tail r1 hr1) ?_ (fun _ _ z => z.elim)
        rintro _ _ ⟨o, r2, rfl, hr2, rfl⟩
        simp
        refine ih hr2 (by omega) fun e r3 a b c => ?_
        simp
        refine ih c (by omega) fun e' r4 a' b' c' => ?_
        simp
        exact K (.bin o e e') r4 ⟨a, a'⟩ (sh o e e' b b') c'
end
end Kx

/- part -/
set_option Elab.async false
set_option linter.all false
set_option maxRecDepth 100000
set_option maxHeartbeats 8000000
namespace Kx
open PySem DL PyProof.Rows
theorem wp_flat {α β : Type} {vs : List Nat} {gm : D → SE → R Unit} {mt : DM Bool} {body : List α → DM (List α)} {ρ : SE} (f : β → D) (g : β → List α) (hn : noOw ρ vs = true) (xs : List β) (a : List α) (hz : (a ++ xs.flatMap g).length ≤ 1000000)
    (h : ∀ x ∈ xs, ∀ a : List α, (a ++ g x).length ≤ 1000000 → WP (gTurn vs gm mt body (f x) a ρ) (fun a' ρ1 => a' = a ++ g x ∧ ρ1 = ρ) noX) : WP (cRun vs gm mt body (xs.map f) a ρ) (fun a' ρ1 => a' = a ++ xs.flatMap g ∧ ρ1 = ρ) noX := by
  have e : ∀ i x, xs[i]? = some x → (xs.take (i + 1)).flatMap g = (xs.take i).flatMap g ++ g x := fun i x hx => by
    obtain ⟨hi, e⟩ := List.getElem?_eq_some_iff.mp hx
    rw [List.take_succ_eq_append_getElem hi, List.flatMap_append, e]
    simp
  have le : ∀ i, ((xs.take i).flatMap g).length ≤ (xs.flatMap g).length := fun i => by
    have : xs.flatMap g = (xs.take i).flatMap g ++ (xs.drop i).flatMap g := by rw [← List.flatMap_append, List.take_append_drop]
    rw [this, List.length_append]
    omega
  refine wp_cRun (fun i a' ρ1 => a' = a ++ (xs.take i).flatMap g ∧ ρ1 = ρ) ⟨by simp, rfl⟩ (fun i a ρ z => z.2 ▸ hn) (fun i d a' ρ1 J hd hI hJ => ?_) (fun a' ρ1 z => ⟨by rw [z.1, List.length_map, List.take_length], z.2⟩)
  obtain ⟨rfl, rfl⟩ := hI
  rw [List.getElem?_map, Option.map_eq_some_iff] at hd
  obtain ⟨x, hx, rfl⟩ := hd
  refine Wp.mono (h x (List.mem_of_getElem? hx) _ ?_) ?_ (fun _ _ z => z.elim)
  · rw [List.append_assoc, ← e i x hx, List.length_append]
    rw [List.length_append] at hz
    have := le (i + 1)
    omega
  · rintro a' ρ1 ⟨rfl, rfl⟩
    exact hJ _ _ ⟨by rw [List.append_assoc, e i x hx], rfl⟩
def starK (i j : Nat) (d : D) (ρ : SE) : R Fl := match d with
  | .tup (x :: xs) => (stow ρ i (.im x)).bind fun _ ρ2 => (stow ρ2 j (.im (.lst xs))).bind fun _ ρ3 => .ok .nx ρ3
  | _ => .bad
@[simp] theorem starK_tup {i j : Nat} {x : D} {xs : List D} {ρ : SE} : starK i j (.tup (x :: xs)) ρ = (stow ρ i (.im x)).bind fun _ ρ2 => (stow ρ2 j (.im (.lst xs))).bind fun _ ρ3 => .ok .nx ρ3 := rfl
@[simp ↓, simp] theorem u_sStar {i j : Nat} {m : DM RV} {ρ : SE} {c : Cont Fl} : Wp (sStar i j m ρ) = Wp ((dFz m ρ).bind fun d ρ1 => starK i j d ρ1 : R Fl) := rfl
@[simp] theorem addL_ok {ds : List D} {d : D} (h : ds.length < 1000000) : addL ds d = some (ds ++ [d]) := if_pos h
section
@[local simp] theorem cw0 : inD false (.str "x") (.tup [.str "x", .str "number"]) = some (.im (.bl true)) := by rfl
@[local simp] theorem cw1 : inD false (.str "x") (.tup [.str "number", .str "x"]) = some (.im (.bl true)) := by rfl
@[local simp] theorem cw2 : inD false (.str "x") (.tup [.str "abs", .str "multiple"]) = some (.im (.bl false)) := by rfl
@[local simp] theorem cw3 : eqD (.str "x") (.str "call") = some (.im (.bl false)) := by
  rw [eqD_strA (sok_of (sok_lit _)) (sok_of (sok_lit _))]
  exact congrArg (fun z => some (RV.im (D.bl z))) (by decide +kernel)
@[local simp] theorem cw4 : eqD (.str "x") (.str "multiple") = some (.im (.bl false)) := by
  rw [eqD_strA (sok_of (sok_lit _)) (sok_of (sok_lit _))]
  exact congrArg (fun z => some (RV.im (D.bl z))) (by decide +kernel)
@[local simp] theorem cw5 : inD false (.str "number") (.tup [.str "x", .str "number"]) = some (.im (.bl true)) := by rfl
@[local simp] theorem cw6 : inD false (.str "number") (.tup [.str "number", .str "x"]) = some (.im (.bl true)) := by rfl
@[local simp] theorem cw7 : inD false (.str "number") (.tup [.str "abs", .str "multiple"]) = some (.im (.bl false)) := by rfl
@[local simp] theorem cw8 : eqD (.str "number") (.str "call") = some (.im (.bl false)) := by
  rw [eqD_strA (sok_of (sok_lit _)) (sok_of (sok_lit _))]
  exact congrArg (fun z => some (RV.im (D.bl z))) (by decide +kernel)
@[local simp] theorem cw9 : eqD (.str "number") (.str "multiple") = some (.im (.bl false)) := by
  rw [eqD_strA (sok_of (sok_lit _)) (sok_of (sok_lit _))]
  exact congrArg (fun z => some (RV.im (D.bl z))) (by decide +kernel)
@[local simp] theorem cw10 : inD false (.str "abs") (.tup [.str "x", .str "number"]) = some (.im (.bl false)) := by rfl
@[local simp] theorem cw11 : inD false (.str "abs") (.tup [.str "number", .str "x"]) = some (.im (.bl false)) := by rfl
@[local simp] theorem cw12 : inD false (.str "abs") (.tup [.str "abs", .str "multiple"]) = some (.im (.bl true)) := by rfl
@[local simp] theorem cw13 : eqD (.str "abs") (.str "call") = some (.im (.bl false)) := by
  rw [eqD_strA (sok_of (sok_lit _)) (sok_of (sok_lit _))]
  exact congrArg (fun z => some (RV.im (D.bl z))) (by decide +kernel)
@[local simp] theorem cw14 : eqD (.str "abs") (.str "multiple") = some (.im (.bl false)) := by
  rw [eqD_strA (sok_of (sok_lit _)) (sok_of (sok_lit _))]
  exact congrArg (fun z => some (RV.im (D.bl z))) (by decide +kernel)
@[local simp] theorem cw15 : inD false (.str "multiple") (.tup [.str "x", .str "number"]) = some (.im (.bl false)) := by rfl
@[local simp] theorem cw16 : inD false (.str "multiple") (.tup [.str "number", .str "x"]) = some (.im (.bl false)) := by rfl
@[local simp] theorem cw17 : inD false (.str "multiple") (.tup [.str "abs", .str "multiple"]) = some (.im (.bl true)) := by rfl
@[local simp] theorem cw18 : eqD (.str "multiple") (.str "call") = some (.im (.bl false)) := by
  rw [eqD_strA (sok_of (sok_lit _)) (sok_of (sok_lit _))]
  exact congrArg (fun z => some (RV.im (D.bl z))) (by decide +kernel)
@[local simp] theorem cw19 : eqD (.str "multiple") (.str "multiple") = some (.im (.bl true)) := by
  rw [eqD_strA (sok_of (sok_lit _)) (sok_of (sok_lit _))]
  exact congrArg (fun z => some (RV.im (D.bl z))) (by decide +kernel)
@[local simp] theorem cw20 : inD false (.str "call") (.tup [.str "x", .str "number"]) = some (.im (.bl false)) := by rfl
@[local simp] theorem cw21 : inD false (.str "call") (.tup [.str "number", .str "x"]) = some (.im (.bl false)) := by rfl
@[local simp] theorem cw22 : inD false (.str "call") (.tup [.str "abs", .str "multiple"]) = some (.im (.bl false)) := by rfl
@[local simp] theorem cw23 : eqD (.str "call") (.str "call") = some (.im (.bl true)) := by
  rw [eqD_strA (sok_of (sok_lit _)) (sok_of (sok_lit _))]
  exact congrArg (fun z => some (RV.im (D.bl z))) (by decide +kernel)
@[local simp] theorem cw24 : eqD (.str "call") (.str "multiple") = some (.im (.bl false)) := by
  rw [eqD_strA (sok_of (sok_lit _)) (sok_of (sok_lit _))]
  exact congrArg (fun z => some (RV.im (D.bl z))) (by decide +kernel)
@[local simp] theorem cw25 : inD false (.str "add") (.tup [.str "x", .str "number"]) = some (.im (.bl false)) := by rfl
@[local simp] theorem cw26 : inD false (.str "add") (.tup [.str "number", .str "x"]) = some (.im (.bl false)) := by rfl
@[local simp] theorem cw27 : inD false (.str "add") (.tup [.str "abs", .str "multiple"]) = some (.im (.bl false)) := by rfl
@[local simp] theorem cw28 : eqD (.str "add") (.str "call") = some (.im (.bl false)) := by
  rw [eqD_strA (sok_of (sok_lit _)) (sok_of (sok_lit _))]
  exact congrArg (fun z => some (RV.im (D.bl z))) (by decide +kernel)
@[local simp] theorem cw29 : eqD (.str "add") (.str "multiple") = some (.im (.bl false)) := by
  rw [eqD_strA (sok_of (sok_lit _)) (sok_of (sok_lit _))]
  exact congrArg (fun z => some (RV.im (D.bl z))) (by decide +kernel)
@[local simp] theorem cw30 : inD false (.str "subtract") (.tup [.str "x", .str "number"]) = some (.im (.bl false)) := by rfl
@[local simp] theorem cw31 : inD false (.str "subtract") (.tup [.str "number", .str "x"]) = some (.im (.bl false)) := by rfl
@[local simp] theorem cw32 : inD false (.str "subtract") (.tup [.str "abs", .str "multiple"]) = some (.im (.bl false)) := by rfl
@[local simp] theorem cw33 : eqD (.str "subtract") (.str "call") = some (.im (.bl false)) := by
  rw [eqD_strA (sok_of (sok_lit _)) (sok_of (sok_lit _))]
  exact congrArg (fun z => some (RV.im (D.bl z))) (by decide +kernel)
@[local simp] theorem cw34 : eqD (.str "subtract") (.str "multiple") = some (.im (.bl false)) := by
  rw [eqD_strA (sok_of (sok_lit _)) (sok_of (sok_lit _))]
  exact congrArg (fun z => some (RV.im (D.bl z))) (by decide +kernel)
@[local simp] theorem cw35 : inD false (.str "max") (.tup [.str "x", .str "number"]) = some (.im (.bl false)) := by rfl
@[local simp] theorem cw36 : inD false (.str "max") (.tup [.str "number", .str "x"]) = some (.im (.bl false)) := by rfl
@[local simp] theorem cw37 : inD false (.str "max") (.tup [.str "abs", .str "multiple"]) = some (.im (.bl false)) := by rfl
@[local simp] theorem cw38 : eqD (.str "max") (.str "call") = some (.im (.bl false)) := by
  rw [eqD_strA (sok_of (sok_lit _)) (sok_of (sok_lit _))]
  exact congrArg (fun z => some (RV.im (D.bl z))) (by decide +kernel)
@[local simp] theorem cw39 : eqD (.str "max") (.str "multiple") = some (.im (.bl false)) := by
  rw [eqD_strA (sok_of (sok_lit _)) (sok_of (sok_lit _))]
  exact congrArg (fun z => some (RV.im (D.bl z))) (by decide +kernel)
@[local simp] theorem cw40 : inD false (.str "min") (.tup [.str "x", .str "number"]) = some (.im (.bl false)) := by rfl
@[local simp] theorem cw41 : inD false (.str "min") (.tup [.str "number", .str "x"]) = some (.im (.bl false)) := by rfl
@[local simp] theorem cw42 : inD false (.str "min") (.tup [.str "abs", .str "multiple"]) = some (.im (.bl false)) := by rfl
@[local simp] theorem cw43 : eqD (.str "min") (.str "call") = some (.im (.bl false)) := by
  rw [eqD_strA (sok_of (sok_lit _)) (sok_of (sok_lit _))]
  exact congrArg (fun z => some (RV.im (D.bl z))) (by decide +kernel)
@[local simp] theorem cw44 : eqD (.str "min") (.str "multiple") = some (.im (.bl false)) := by
  rw [eqD_strA (sok_of (sok_lit _)) (sok_of (sok_lit _))]
  exact congrArg (fun z => some (RV.im (D.bl z))) (by decide +kernel)
@[local simp] theorem at2 {a b : D} : L2.atI [a, b] (-1) = some b := rfl
@[local simp] theorem at3 {a b c : D} : L2.atI [a, b, c] (-1) = some c := rfl
theorem add_lst {a b : List D} (h : a.length + b.length ≤ 1000000) : addD (.lst a) (.lst b) = some (.ow (.ls (a ++ b))) := if_pos h
theorem two_le {k n : Nat} (h : k ≤ n) : 2 ^ k ≤ 2 ^ n := Nat.pow_le_pow_right (by decide) h
theorem callsin_wp : ∀ (n : Nat) (e : Ex) {Q : RV → SE → Prop} {E : Exc → SE → Prop}, exH e ≤ n → n ≤ 16 → Q (.ow (.ls ((exC e).map D.str))) [.im (exD e)] → WP (m_calls_in n [.im (exD e)]) Q E
  | 0, e, Q, E, h, _, _ => by
    have := exH_pos e
    omega
  | n + 1, e, Q, E, h, hn, K => by
    have es : m_calls_in (n + 1) = mFn n_calls_in.length (b_calls_in (m_calls_in n)) := rfl
    have ih := fun (e' : Ex) (h' : exH e' + 1 ≤ exH e) {Q' : RV → SE → Prop} {E' : Exc → SE → Prop} (K' : Q' (.ow (.ls ((exC e').map D.str))) [.im (exD e')]) => callsin_wp n e' (Q := Q') (E := E') (by omega) (by omega) K'
    have big : (exC e).length ≤ 65536 := by
      have := exC_len e
      have := two_le (Nat.le_trans h hn)
      omega
    have turns : ∀ (es : List Ex) (a0 a1 a2 a3 : SV), (∀ e' ∈ es, exH e' + 1 ≤ exH e) → ((es.flatMap exC).length ≤ 65536) → WP (cRun [4, 5] (tgName 4) tYesD (cIn [5] (iSeq (dCall 1 [] (m_calls_in n) (aCons (dVar 4) aNil))) (tgName 5) tYesD (cEm addL (dVar 5))) (es.map exD) [] [a0, a1, a2, a3, .no, .no])
        (fun ys ρ1 => ys = [] ++ es.flatMap (fun e => (exC e).map D.str) ∧ ρ1 = [a0, a1, a2, a3, .no, .no]) noX := fun es a0 a1 a2 a3 he hl => by
      refine wp_flat exD (fun e => (exC e).map D.str) rfl es [] (by rw [List.nil_append, ← List.map_flatMap, List.length_map]; omega) fun e' he' a ha => ?_
      simp [gTurn]
      refine ih e' (he e' he') ?_
      simp
      have sg : ∀ l : List Str, l.flatMap (fun s => [D.str s]) = l.map D.str := fun l => by
        induction l with
        | nil => rfl
        | cons x l ih => simp [ih]
      refine Wp.mono (wp_flat D.str (fun s => [D.str s]) rfl (exC e') a (by rw [sg]; exact ha) fun s _ a1 h1 => ?_) ?_ (fun _ _ z => z.elim)
      · rw [List.length_append] at h1
        simp at h1
        simp [gTurn, show a1.length < 1000000 from by omega]
        rfl
      · rintro _ _ ⟨rfl, rfl⟩
        simp [sg]
        rfl
    rw [es]
    refine wp_fn ?_
    cases e with
    | x =>
      simp [b_calls_in, exD]
      exact K
    | num q =>
      simp [b_calls_in, exD]
      exact K
    | ab e =>
      simp [b_calls_in, exD]
      refine Wp.mono (turns [e] _ _ _ _ (fun e' h => by rw [List.mem_singleton.mp h]; exact Nat.le_refl _) (by simpa [exC] using big)) ?_ (fun _ _ z => z.elim)
      rintro _ _ ⟨rfl, rfl⟩
      simp
      exact K
    | mul q e =>
      simp [b_calls_in, exD]
      refine Wp.mono (turns [e] _ _ _ _ (fun e' h => by rw [List.mem_singleton.mp h]; exact Nat.le_refl _) (by simpa [exC] using big)) ?_ (fun _ _ z => z.elim)
      rintro _ _ ⟨rfl, rfl⟩
      simp
      exact K
    | call f e =>
      have : (exC (.call f e)).length = (exC e).length + 1 := by simp [exC]
      simp [b_calls_in, exD]
      refine ih e (Nat.le_refl _) ?_
      simp
      rw [add_lst (by simp; omega)]
      simp
      exact K
    | bin o a b =>
      have la : exH a + 1 ≤ exH (.bin o a b) := by
        show exH a + 1 ≤ max (exH a) (exH b) + 1
        omega
      have lb : exH b + 1 ≤ exH (.bin o a b) := by
        show exH b + 1 ≤ max (exH a) (exH b) + 1
        omega
      have ll : (exC (.bin o a b)).length = (exC a).length + (exC b).length := by simp [exC]
      cases o
      all_goals
        simp [b_calls_in, exD, boS]
        refine Wp.mono (turns [a, b] _ _ _ _ (fun e' h => by
          simp only [List.mem_cons, List.not_mem_nil, or_false] at h
          rcases h with rfl | rfl
          · exact la
          · exact lb) (by simpa [exC] using big)) ?_ (fun _ _ z => z.elim)
        rintro _ _ ⟨rfl, rfl⟩
        simp
        simpa [exC] using K
end
end Kx

/- part -/
set_option Elab.async false
set_option linter.all false
set_option maxRecDepth 100000
set_option maxHeartbeats 8000000
namespace Kx
open PySem DL PyProof.Rows
def absQ (q : Rat) : Rat := if 0 ≤ q then q else -q
def binQ : Bo → Rat → Rat → Rat
  | .add, a, b => a + b
  | .sub, a, b => a - b
  | .mx, a, b => if a < b then b else a
  | .mn, a, b => if a < b then a else b
def evx (φ : Str → Rat → Rat) : Ex → Rat → Rat
  | .x, v => v
  | .num q, _ => q
  | .ab e, v => absQ (evx φ e v)
  | .mul q e, v => q * evx φ e v
  | .call f e, v => φ f (evx φ e v)
  | .bin o a b, v => binQ o (evx φ a v) (evx φ b v)
def hE (hd : Str → Nat) : Ex → Nat
  | .x => 1
  | .num _ => 1
  | .ab e => hE hd e + 1
  | .mul _ e => hE hd e + 1
  | .call f e => max (hE hd e) (hd f) + 1
  | .bin _ a b => max (hE hd a) (hE hd b) + 1
def wE (wt : Str → Nat) : Ex → Nat
  | .x => 0
  | .num _ => 20
  | .ab e => wE wt e
  | .mul _ e => wE wt e + 20
  | .call f e => wE wt e + wt f + 1
  | .bin _ a b => wE wt a + wE wt b + 1
def Bd (d s w : Nat) (q : Rat) : Prop := (∃ (A : Nat) (z : Int), 0 < A ∧ A < 2 ^ (w + 1) ∧ q * ((d * A : Nat) : Rat) = (z : Rat)) ∧ absQ q ≤ ((s * 2 ^ w : Nat) : Rat)
theorem absQ_nn (q : Rat) : 0 ≤ absQ q := by
  unfold absQ
  split
  · assumption
  · rename_i h
    have : q < 0 := Rat.not_le.mp h
    grind
theorem absQ_le {q b : Rat} : absQ q ≤ b ↔ q ≤ b ∧ -b ≤ q := by
  unfold absQ
  split
  · constructor
    · intro h
      constructor <;> grind
    · exact fun h => h.1
  · rename_i h
    have : q < 0 := Rat.not_le.mp h
    constructor
    · intro h
      constructor <;> grind
    · intro h
      grind
section
variable {d s w w' : Nat} {p q : Rat}
theorem cast_mono {a b : Nat} (h : a ≤ b) : ((a : Nat) : Rat) ≤ ((b : Nat) : Rat) := by
  exact_mod_cast h
theorem Bd.neg (h : Bd d s w q) : Bd d s w (-q) := by
  obtain ⟨⟨A, z, a0, a1, e⟩, l⟩ := h
  refine ⟨⟨A, -z, a0, a1, ?_⟩, ?_⟩
  · rw [Rat.neg_mul, e]
    simp
  · rw [absQ_le] at l ⊢
    constructor <;> grind
theorem Bd.abs (h : Bd d s w q) : Bd d s w (absQ q) := by
  have h2 := h.neg
  unfold absQ at *
  unfold Bd at *
  split
  · exact h
  · exact h2
theorem pow2_sum (a b : Nat) : 2 ^ a + 2 ^ b ≤ 2 ^ (a + b + 1) := by
  have h1 : 2 ^ a ≤ 2 ^ (a + b) := Nat.pow_le_pow_right (by decide) (by omega)
  have h2 : 2 ^ b ≤ 2 ^ (a + b) := Nat.pow_le_pow_right (by decide) (by omega)
  rw [Nat.pow_succ]
  omega
theorem pow_mul_lt {a b A B : Nat} (hA : A < 2 ^ a) (hB : B < 2 ^ b) (B0 : 0 < B) : A * B < 2 ^ (a + b) := by
  rw [Nat.pow_add]
  exact Nat.mul_lt_mul_of_lt_of_le hA (Nat.le_of_lt hB) (by omega)
theorem Bd.mono (h : Bd d s w q) (hw : w ≤ w') : Bd d s w' q := by
  obtain ⟨⟨A, z, a0, a1, e⟩, l⟩ := h
  refine ⟨⟨A, z, a0, Nat.lt_of_lt_of_le a1 (Nat.pow_le_pow_right (by decide) (by omega)), e⟩, Rat.le_trans l (cast_mono ?_)⟩
  exact Nat.mul_le_mul_left s (Nat.pow_le_pow_right (by decide) hw)
theorem absQ_add {p q b c : Rat} (h1 : absQ p ≤ b) (h2 : absQ q ≤ c) : absQ (p + q) ≤ b + c := by
  rw [absQ_le] at *
  constructor <;> grind
theorem Bd.add (hp : Bd d s w p) (hq : Bd d s w' q) : Bd d s (w + w' + 1) (p + q) := by
  obtain ⟨⟨A, z, a0, a1, e⟩, l⟩ := hp
  obtain ⟨⟨B, y, b0, b1, g⟩, m⟩ := hq
  refine ⟨⟨A * B, z * B + y * A, Nat.mul_pos a0 b0, ?_, ?_⟩, ?_⟩
  · have := pow_mul_lt a1 b1 b0
    rw [show w + 1 + (w' + 1) = w + w' + 1 + 1 by omega] at this
    exact this
  · have cA : (((A : Nat) : Int) : Rat) = ((A : Nat) : Rat) := rfl
    have cB : (((B : Nat) : Int) : Rat) = ((B : Nat) : Rat) := rfl
    have e1 : p * ((d * (A * B) : Nat) : Rat) = p * ((d * A : Nat) : Rat) * (B : Rat) := by
      rw [← Nat.mul_assoc, Rat.natCast_mul, Rat.mul_assoc]
    have e2 : q * ((d * (A * B) : Nat) : Rat) = q * ((d * B : Nat) : Rat) * (A : Rat) := by
      rw [Nat.mul_comm A B, ← Nat.mul_assoc, Rat.natCast_mul, Rat.mul_assoc]
    rw [Rat.add_mul, e1, e2, e, g]
    simp [cA, cB]
  · refine Rat.le_trans (absQ_add l m) ?_
    rw [← Rat.natCast_add]
    refine cast_mono ?_
    rw [← Nat.mul_add]
    exact Nat.mul_le_mul_left s (pow2_sum w w')
theorem Bd.bin {o : Bo} (hp : Bd d s w p) (hq : Bd d s w' q) : Bd d s (w + w' + 1) (binQ o p q) := by
  cases o with
  | add => exact hp.add hq
  | sub =>
    have z := hp.add hq.neg
    rw [← Rat.sub_eq_add_neg] at z
    exact z
  | mx =>
    show Bd d s _ (if p < q then q else p)
    split
    · exact hq.mono (by omega)
    · exact hp.mono (by omega)
  | mn =>
    show Bd d s _ (if p < q then p else q)
    split
    · exact hp.mono (by omega)
    · exact hq.mono (by omega)
theorem rat_den_num (q : Rat) : q * ((q.den : Nat) : Rat) = ((q.num : Int) : Rat) := by
  have e : ((q.num : Int) : Rat) / (((q.den : Nat) : Int) : Rat) = q := by rw [← Rat.divInt_eq_div, Rat.num_divInt_den]
  have d0 : (((q.den : Nat) : Int) : Rat) ≠ 0 := by
    have := q.den_pos
    exact_mod_cast (show ((q.den : Nat) : Int) ≠ 0 by omega)
  have z := Rat.div_mul_cancel (a := ((q.num : Int) : Rat)) d0
  rw [e] at z
  exact z
theorem F6.le {c : Rat} (h : F6 c) : absQ c ≤ ((2 ^ 20 : Nat) : Rat) := by
  have e := rat_den_num c
  have d1 : (1 : Rat) ≤ ((c.den : Nat) : Rat) := by
    have := c.den_pos
    exact_mod_cast this
  obtain ⟨N, hN⟩ : ∃ N : Nat, N = 2 ^ 20 := ⟨_, rfl⟩
  have hN2 : N = 1048576 := hN
  rw [← hN]
  have n1 : ((c.num : Int) : Rat) ≤ ((N : Nat) : Rat) := by
    have := h.1
    exact_mod_cast (show c.num ≤ ((N : Nat) : Int) by omega)
  have n2 : -((N : Nat) : Rat) ≤ ((c.num : Int) : Rat) := by
    have := h.1
    have z : (0 : Rat) ≤ ((c.num : Int) : Rat) + ((N : Nat) : Rat) := by exact_mod_cast (show 0 ≤ c.num + ((N : Nat) : Int) by omega)
    grind
  rw [absQ_le]
  rw [← e] at n1 n2
  generalize ((c.den : Nat) : Rat) = D at *
  have B0 : (0 : Rat) ≤ ((N : Nat) : Rat) := by exact_mod_cast (Nat.zero_le N)
  generalize ((N : Nat) : Rat) = B at *
  constructor
  · by_cases c0 : 0 ≤ c
    · have := Rat.mul_le_mul_of_nonneg_left d1 c0
      grind
    · grind
  · by_cases c0 : 0 ≤ c
    · grind
    · have := Rat.mul_le_mul_of_nonneg_left (c := -c) d1 (by grind)
      grind
theorem Bd.num (h : F6 q) (s1 : 1 ≤ s) : Bd d s 20 q := by
  refine ⟨⟨q.den, (d : Int) * q.num, q.den_pos, by have := h.2; omega, ?_⟩, Rat.le_trans h.le (cast_mono ?_)⟩
  · rw [Nat.mul_comm d, Rat.natCast_mul, ← Rat.mul_assoc, rat_den_num, Rat.mul_comm]
    simp
    rfl
  · have := Nat.mul_le_mul_right (2 ^ 20) s1
    omega
end
end Kx

/- part -/
set_option Elab.async false
set_option linter.all false
set_option maxRecDepth 100000
set_option maxHeartbeats 8000000
namespace Kx
open PySem DL PyProof.Rows
section
variable {d s w w' : Nat} {p q : Rat}
theorem Bd.mul (h : F6 p) (hq : Bd d s w q) : Bd d s (w + 20) (p * q) := by
  obtain ⟨⟨A, z, a0, a1, e⟩, l⟩ := hq
  have hle := h.le
  refine ⟨⟨A * p.den, p.num * z, Nat.mul_pos a0 p.den_pos, ?_, ?_⟩, ?_⟩
  · have := pow_mul_lt (b := 20) a1 (by have := h.2; omega) p.den_pos
    rw [show w + 1 + 20 = w + 20 + 1 by omega] at this
    exact this
  · have e1 : p * q * ((d * (A * p.den) : Nat) : Rat) = (p * ((p.den : Nat) : Rat)) * (q * ((d * A : Nat) : Rat)) := by
      rw [← Nat.mul_assoc, Rat.natCast_mul]
      generalize ((d * A : Nat) : Rat) = x
      generalize ((p.den : Nat) : Rat) = y
      grind
    rw [e1, rat_den_num, e]
    simp
  · rw [Nat.pow_add]
    have c1 : ((s * (2 ^ w * 2 ^ 20) : Nat) : Rat) = ((2 ^ 20 : Nat) : Rat) * ((s * 2 ^ w : Nat) : Rat) := by
      rw [← Rat.natCast_mul]
      congr 1
      rw [← Nat.mul_assoc, Nat.mul_comm]
    rw [c1]
    generalize ((2 ^ 20 : Nat) : Rat) = x at *
    generalize ((s * 2 ^ w : Nat) : Rat) = y at *
    have k1 := absQ_nn p
    have k2 := absQ_nn q
    have e2 : absQ (p * q) = absQ p * absQ q := by
      unfold absQ
      by_cases c1 : 0 ≤ p
      · by_cases c2 : 0 ≤ q
        · rw [if_pos c1, if_pos c2, if_pos (Rat.mul_nonneg c1 c2)]
        · rw [if_pos c1, if_neg c2]
          have z := Rat.mul_nonneg c1 (show 0 ≤ -q by grind)
          split <;> grind
      · by_cases c2 : 0 ≤ q
        · rw [if_neg c1, if_pos c2]
          have z := Rat.mul_nonneg (show 0 ≤ -p by grind) c2
          split <;> grind
        · rw [if_neg c1, if_neg c2]
          have z := Rat.mul_nonneg (show 0 ≤ -p by grind) (show 0 ≤ -q by grind)
          split <;> grind
    rw [e2]
    exact Rat.le_trans (Rat.mul_le_mul_of_nonneg_left l k1) (Rat.mul_le_mul_of_nonneg_right hle (Rat.le_trans k2 l))
def In (d s : Nat) (v : Rat) : Prop := (∃ z : Int, v * ((d : Nat) : Rat) = (z : Rat)) ∧ absQ v + 1 ≤ ((s : Nat) : Rat)
theorem In.s1 (h : In d s p) : 1 ≤ s := by
  have h2 := h.2
  have k := absQ_nn p
  have z : (1 : Rat) ≤ ((s : Nat) : Rat) := by grind
  exact_mod_cast z
theorem In.bd (h : In d s p) : Bd d s 0 p := by
  obtain ⟨⟨z, e⟩, l⟩ := h
  refine ⟨⟨1, z, by decide, by decide, by rw [Nat.mul_one]; exact e⟩, ?_⟩
  rw [Nat.pow_zero, Nat.mul_one]
  grind
theorem Bd.inn (h : Bd d s w p) (s1 : 1 ≤ s) : ∃ A : Nat, 0 < A ∧ A < 2 ^ (w + 1) ∧ In (d * A) (s * 2 ^ (w + 1)) p := by
  obtain ⟨⟨A, z, a0, a1, e⟩, l⟩ := h
  refine ⟨A, a0, a1, ⟨z, e⟩, ?_⟩
  have c : ((s * 2 ^ w + 1 : Nat) : Rat) ≤ ((s * 2 ^ (w + 1) : Nat) : Rat) := cast_mono (by
    have p1 : 1 ≤ 2 ^ w := Nat.one_le_two_pow
    have := Nat.mul_le_mul s1 p1
    rw [Nat.pow_succ, ← Nat.mul_assoc]
    omega)
  rw [Rat.natCast_add] at c
  have o1 : ((1 : Nat) : Rat) = 1 := rfl
  rw [o1] at c
  grind
def PhOkQ (φ : Str → Rat → Rat) (wt : Str → Nat) (P : Str → Prop) : Prop := ∀ f, P f → ∀ (d s : Nat) (v : Rat), In d s v → Bd d s (wt f) (φ f v)
theorem Bd.call {φ : Rat → Rat} {m : Nat} (hφ : ∀ (d s : Nat) (v : Rat), In d s v → Bd d s m (φ v)) (h : Bd d s w p) (s1 : 1 ≤ s) : Bd d s (w + m + 1) (φ p) := by
  obtain ⟨A, a0, a1, hi⟩ := h.inn s1
  obtain ⟨⟨B, z, b0, b1, e⟩, l⟩ := hφ _ _ _ hi
  refine ⟨⟨A * B, z, Nat.mul_pos a0 b0, ?_, ?_⟩, ?_⟩
  · have := pow_mul_lt a1 b1 b0
    rw [show w + 1 + (m + 1) = w + m + 1 + 1 by omega] at this
    exact this
  · rw [← Nat.mul_assoc]
    exact e
  · rw [show w + m + 1 = w + 1 + m by omega, Nat.pow_add, ← Nat.mul_assoc]
    exact l
theorem evx_bd {φ : Str → Rat → Rat} {wt : Str → Nat} {P : Str → Prop} (hφ : PhOkQ φ wt P) {v : Rat} (hv : In d s v) : ∀ e : Ex, ExOk P e → Bd d s (wE wt e) (evx φ e v)
  | .x, _ => hv.bd
  | .num q, h => Bd.num h hv.s1
  | .ab e, h => (evx_bd hφ hv e h).abs
  | .mul q e, h => Bd.mul h.1 (evx_bd hφ hv e h.2)
  | .call f e, h => Bd.call (φ := φ f) (hφ f h.1) (evx_bd hφ hv e h.2) hv.s1
  | .bin o a b, h => (evx_bd hφ hv a h.1).bin (evx_bd hφ hv b h.2)
def Qy (q : Rat) : Prop := Sml q.num ∧ q.den < 2 ^ 4400
theorem den_le {N : Nat} {z : Int} (h : p * ((N : Nat) : Rat) = (z : Rat)) (N0 : 0 < N) : p.den ≤ N := by
  have n0 : (((N : Nat) : Int) : Rat) ≠ 0 := by exact_mod_cast (show ((N : Nat) : Int) ≠ 0 by omega)
  have n1 : ((N : Nat) : Rat) = (((N : Nat) : Int) : Rat) := rfl
  rw [n1] at h
  have e : p = ((z : Int) : Rat) / (((N : Nat) : Int) : Rat) := by
    rw [← h, Rat.mul_div_cancel n0]
  rw [← Rat.divInt_eq_div] at e
  rw [e, Rat.den_divInt, if_neg (by omega)]
  have : ((N : Nat) : Int).natAbs = N := by omega
  rw [this]
  exact Nat.div_le_self _ _
theorem num_le {N B : Nat} (hd : p.den ≤ N) (l : absQ p ≤ ((B : Nat) : Rat)) : p.num.natAbs ≤ B * N := by
  have e := rat_den_num p
  obtain ⟨l1, l2⟩ := absQ_le.mp l
  have d0 : (0 : Rat) ≤ ((p.den : Nat) : Rat) := by exact_mod_cast (Nat.zero_le p.den)
  have k1 := Rat.mul_le_mul_of_nonneg_right l1 d0
  have k2 := Rat.mul_le_mul_of_nonneg_right l2 d0
  rw [e] at k1 k2
  have k1 : p.num ≤ ((B * p.den : Nat) : Int) := by
    rw [← Rat.natCast_mul] at k1
    exact_mod_cast k1
  have k2 : 0 ≤ p.num + ((B * p.den : Nat) : Int) := by
    have z : (0 : Rat) ≤ ((p.num : Int) : Rat) + ((B * p.den : Nat) : Rat) := by
      rw [Rat.natCast_mul]
      grind
    exact_mod_cast z
  have := Nat.mul_le_mul_left B hd
  omega
theorem Bd.qy (h : Bd d s w p) (d0 : 0 < d) (hd : d < 2 ^ 400) (hs : s < 2 ^ 400) (hw : w ≤ 3990) : Qy p := by
  obtain ⟨⟨A, z, a0, a1, e⟩, l⟩ := h
  have dl := den_le e (Nat.mul_pos d0 a0)
  have m1 : d * A < 2 ^ (400 + (w + 1)) := pow_mul_lt hd a1 a0
  refine ⟨?_, Nat.lt_of_le_of_lt dl (Nat.lt_of_lt_of_le m1 (Nat.pow_le_pow_right (by decide) (by omega)))⟩
  have nl := num_le dl l
  have m2 : s * 2 ^ w ≤ 2 ^ (400 + w) := by
    rw [Nat.pow_add]
    exact Nat.mul_le_mul_right _ (Nat.le_of_lt hs)
  have m3 : s * 2 ^ w * (d * A) < 2 ^ (400 + w + (400 + (w + 1))) := by
    rw [Nat.pow_add]
    exact Nat.mul_lt_mul_of_le_of_lt m2 m1 (Nat.two_pow_pos _)
  exact Sml.of (k := 400 + w + (400 + (w + 1))) (Nat.lt_of_le_of_lt nl m3) (by omega) (by omega)
end
end Kx

/- part -/
set_option Elab.async false
set_option linter.all false
set_option maxRecDepth 100000
set_option maxHeartbeats 8000000
namespace Kx
open PySem DL PyProof.Rows
theorem Qy.sd {q : Rat} (h : Qy q) : Sml (q.den : Int) := Sml.of (k := 4400) (by have := h.2; exact_mod_cast this) (by decide) (by decide)
theorem den2_y {x y : Rat} (hx : Qy x) (hy : Qy y) : ((x.den : Int) * (y.den : Int)).natAbs < 2 ^ 8900 := by
  have e : ((x.den : Int) * (y.den : Int)).natAbs = x.den * y.den := by
    rw [Int.natAbs_mul]
    simp
  rw [e]
  have := pow_mul_lt hx.2 hy.2 y.den_pos
  exact Nat.lt_of_lt_of_le this (Nat.pow_le_pow_right (by decide) (by decide))
section
variable {x y : Rat} (hx : Qy x) (hy : Qy y)
include hx hy
theorem add_y : m_add [.im (qD x), .im (qD y)] = .ok (.im (qD (x + y))) [.im (qD x), .im (qD y)] := by
  refine Wp.eq (wp_fn ?_)
  have e := frac_ok (a := x.num * (y.den : Int) + y.num * (x.den : Int)) (Int.ne_of_gt (den2_pos x y)) (den2_y hx hy)
  rw [fr_add] at e
  simp [b_add, qD, hx.1, hx.sd, hy.1, hy.sd] at e ⊢
  simp [e, qD]
theorem subtract_y : m_subtract [.im (qD x), .im (qD y)] = .ok (.im (qD (x - y))) [.im (qD x), .im (qD y)] := by
  refine Wp.eq (wp_fn ?_)
  have e := frac_ok (a := x.num * (y.den : Int) - y.num * (x.den : Int)) (Int.ne_of_gt (den2_pos x y)) (den2_y hx hy)
  rw [fr_sub] at e
  simp [b_subtract, qD, hx.1, hx.sd, hy.1, hy.sd] at e ⊢
  simp [e, qD]
theorem multiply_y : m_multiply [.im (qD x), .im (qD y)] = .ok (.im (qD (x * y))) [.im (qD x), .im (qD y)] := by
  refine Wp.eq (wp_fn ?_)
  have e := frac_ok (a := x.num * y.num) (Int.ne_of_gt (den2_pos x y)) (den2_y hx hy)
  rw [fr_mul] at e
  simp [b_multiply, qD, hx.1, hx.sd, hy.1, hy.sd] at e ⊢
  simp [e, qD]
theorem _law_plus_y : m__law_plus [.im (qD x), .im (qD y)] = .ok (.im (qD (x + y))) [.im (qD x), .im (qD y)] := by
  refine Wp.eq (wp_fn ?_)
  have e := low_ok (a := x.num * (y.den : Int) + y.num * (x.den : Int)) (Int.ne_of_gt (den2_pos x y)) (den2_y hx hy)
  rw [fr_add] at e
  simp [b__law_plus, qD, hx.1, hx.sd, hy.1, hy.sd] at e ⊢
  simp [e, qD]
theorem _law_minus_y : m__law_minus [.im (qD x), .im (qD y)] = .ok (.im (qD (x - y))) [.im (qD x), .im (qD y)] := by
  refine Wp.eq (wp_fn ?_)
  have e := low_ok (a := x.num * (y.den : Int) - y.num * (x.den : Int)) (Int.ne_of_gt (den2_pos x y)) (den2_y hx hy)
  rw [fr_sub] at e
  simp [b__law_minus, qD, hx.1, hx.sd, hy.1, hy.sd] at e ⊢
  simp [e, qD]
theorem _law_times_y : m__law_times [.im (qD x), .im (qD y)] = .ok (.im (qD (x * y))) [.im (qD x), .im (qD y)] := by
  refine Wp.eq (wp_fn ?_)
  have e := low_ok (a := x.num * y.num) (Int.ne_of_gt (den2_pos x y)) (den2_y hx hy)
  rw [fr_mul] at e
  simp [b__law_times, qD, hx.1, hx.sd, hy.1, hy.sd] at e ⊢
  simp [e, qD]
theorem is_less_y : m_is_less [.im (qD x), .im (qD y)] = .ok (.im (.bl (decide (x < y)))) [.im (qD x), .im (qD y)] := by
  refine Wp.eq (wp_fn ?_)
  have e : decide (x < y) = decide (x.num * (y.den : Int) < y.num * (x.den : Int)) := by rw [decide_eq_decide]; exact Rat.lt_iff x y
  rw [e]
  simp [b_is_less, qD, hx.1, hx.sd, hy.1, hy.sd]
theorem _law_less_y : m__law_less [.im (qD x), .im (qD y)] = .ok (.im (.bl (decide (x < y)))) [.im (qD x), .im (qD y)] := by
  refine Wp.eq (wp_fn ?_)
  have e : decide (x < y) = decide (x.num * (y.den : Int) < y.num * (x.den : Int)) := by rw [decide_eq_decide]; exact Rat.lt_iff x y
  rw [e]
  simp [b__law_less, qD, hx.1, hx.sd, hy.1, hy.sd]
theorem larger_y : m_larger [.im (qD x), .im (qD y)] = .ok (.im (qD (binQ .mx x y))) [.im (qD x), .im (qD y)] := by
  refine Wp.eq (wp_fn ?_)
  have e := is_less_y hx hy
  show _
  by_cases c : x < y
  · simp [b_larger, e, c, binQ]
  · simp [b_larger, e, c, binQ]
theorem smaller_y : m_smaller [.im (qD x), .im (qD y)] = .ok (.im (qD (binQ .mn x y))) [.im (qD x), .im (qD y)] := by
  refine Wp.eq (wp_fn ?_)
  have e := is_less_y hy hx
  have b : binQ .mn x y = if y < x then y else x := by
    show (if x < y then x else y) = _
    split <;> split <;> grind
  rw [b]
  by_cases c : y < x
  · simp [b_smaller, e, c]
  · simp [b_smaller, e, c]
end
end Kx

/- part -/
set_option Elab.async false
set_option linter.all false
set_option maxRecDepth 100000
set_option maxHeartbeats 8000000
namespace Kx
open PySem DL PyProof.Rows
theorem Bd.qy2 {d s w a : Nat} {p : Rat} (h : Bd d s w p) (d0 : 0 < d) (hd : d < 2 ^ a) (hs : s < 2 ^ a) (ha : a + w + 1 ≤ 4400) : Qy p := by
  obtain ⟨⟨A, z, a0, a1, e⟩, l⟩ := h
  have dl := den_le e (Nat.mul_pos d0 a0)
  have m1 : d * A < 2 ^ (a + (w + 1)) := pow_mul_lt hd a1 a0
  refine ⟨?_, Nat.lt_of_le_of_lt dl (Nat.lt_of_lt_of_le m1 (Nat.pow_le_pow_right (by decide) (by omega)))⟩
  have nl := num_le dl l
  have m2 : s * 2 ^ w ≤ 2 ^ (a + w) := by
    rw [Nat.pow_add]
    exact Nat.mul_le_mul_right _ (Nat.le_of_lt hs)
  have m3 : s * 2 ^ w * (d * A) < 2 ^ (a + w + (a + (w + 1))) := by
    rw [Nat.pow_add]
    exact Nat.mul_lt_mul_of_le_of_lt m2 m1 (Nat.two_pow_pos _)
  exact Sml.of (k := a + w + (a + (w + 1))) (Nat.lt_of_le_of_lt nl m3) (by omega) (by omega)
def defOf (T : List (Str × Ex)) (f : Str) : Ex := ((T.find? fun p => decide (p.1 = f)).map (·.2)).getD .x
def tabD (T : List (Str × Ex)) : D := .xt .dct (T.map fun p => .str p.1) (T.map fun p => exD p.2)
theorem keyS : KeyF D.str := ⟨fun a b h => by
  have e : ∀ s : Str, nk (.str s) = .text s := fun _ => rfl
  rw [e, e] at h
  injection h, fun _ => rfl, .inl fun _ => rfl⟩
abbrev Kn := Str × Rat
def kdD (k : Kn) : D := .tup [.str k.1, qD k.2]
theorem keyKd : KeyF kdD := ⟨fun a b h => by
  have e : ∀ s : Kn, nk (kdD s) = .tup [.text s.1, .tup [.num s.2.num, .num (s.2.den : Int)]] := fun _ => rfl
  rw [e, e] at h
  simp only [NestedKey.tup.injEq, List.cons.injEq, NestedKey.num.injEq, NestedKey.text.injEq, and_true] at h
  exact Prod.ext h.1 (Rat.ext h.2.1 (by omega)), fun _ => rfl, .inr fun _ => rfl⟩
theorem def_map {T : List (Str × Ex)} (nd : (T.map (·.1)).Nodup) : T.map (fun p => exD p.2) = (T.map (·.1)).map fun f => exD (defOf T f) := by
  rw [List.map_map]
  refine List.map_congr_left fun p hp => ?_
  show exD p.2 = exD (defOf T p.1)
  have key : ∀ {T : List (Str × Ex)}, (T.map (·.1)).Nodup → p ∈ T → defOf T p.1 = p.2 := fun {T} => by
    induction T with
    | nil => exact fun _ h => by cases h
    | cons q T ih =>
      intro nd hp
      rw [List.map_cons, List.nodup_cons] at nd
      unfold defOf
      rw [List.find?_cons]
      by_cases c : q.1 = p.1
      · rw [decide_eq_true c]
        rcases List.mem_cons.mp hp with rfl | hp
        · rfl
        · exact (nd.1 (c ▸ List.mem_map.mpr ⟨p, hp, rfl⟩)).elim
      · rw [decide_eq_false c]
        rcases List.mem_cons.mp hp with rfl | hp
        · exact (c rfl).elim
        · exact ih nd.2 hp
  rw [key nd hp]
theorem tab_get {T : List (Str × Ex)} {f : Str} (nd : (T.map (·.1)).Nodup) (hf : f ∈ T.map (·.1)) : xgetD (tabD T) (.str f) = some (.im (exD (defOf T f))) := by
  have m1 : (T.map fun p => D.str p.1) = (T.map (·.1)).map D.str := by rw [List.map_map]; rfl
  unfold tabD
  rw [m1, def_map nd]
  have e : xgetD (.xt .dct ((T.map (·.1)).map D.str) ((T.map (·.1)).map fun f => exD (defOf T f))) (.str f) = if kyB (.str f) ((T.map (·.1)).map D.str) = true then (dGet (.str f) ((T.map (·.1)).map D.str) ((T.map (·.1)).map fun f => exD (defOf T f))).map RV.im else none := rfl
  rw [e, if_pos (keyS.ky (x := f)), keyS.getMap hf]
  rfl
structure Tab (T : List (Str × Ex)) (φ : Str → Rat → Rat) (wt hd : Str → Nat) (P : Str → Prop) : Prop where
  nd : (T.map (·.1)).Nodup
  mem : ∀ f, P f → f ∈ T.map (·.1)
  ok : ∀ f, P f → ExOk P (defOf T f)
  hdo : ∀ f, P f → hE hd (defOf T f) ≤ hd f
  wto : ∀ f, P f → wE wt (defOf T f) ≤ wt f
  fix : ∀ f, P f → ∀ v, φ f v = evx φ (defOf T f) v
  phi : PhOkQ φ wt P
end Kx

/- part -/
set_option Elab.async false
set_option linter.all false
set_option maxRecDepth 100000
set_option maxHeartbeats 8000000
namespace Kx
open PySem DL PyProof.Rows
section
@[local simp] theorem ew0 : eqD (.str "x") (.str "number") = some (.im (.bl false)) := by
  rw [eqD_strA (sok_of (sok_lit _)) (sok_of (sok_lit _))]
  exact congrArg (fun z => some (RV.im (D.bl z))) (by decide +kernel)
@[local simp] theorem ew1 : eqD (.str "x") (.str "x") = some (.im (.bl true)) := by
  rw [eqD_strA (sok_of (sok_lit _)) (sok_of (sok_lit _))]
  exact congrArg (fun z => some (RV.im (D.bl z))) (by decide +kernel)
@[local simp] theorem ew2 : eqD (.str "x") (.str "call") = some (.im (.bl false)) := by
  rw [eqD_strA (sok_of (sok_lit _)) (sok_of (sok_lit _))]
  exact congrArg (fun z => some (RV.im (D.bl z))) (by decide +kernel)
@[local simp] theorem ew3 : eqD (.str "x") (.str "multiple") = some (.im (.bl false)) := by
  rw [eqD_strA (sok_of (sok_lit _)) (sok_of (sok_lit _))]
  exact congrArg (fun z => some (RV.im (D.bl z))) (by decide +kernel)
@[local simp] theorem ew4 : eqD (.str "x") (.str "abs") = some (.im (.bl false)) := by
  rw [eqD_strA (sok_of (sok_lit _)) (sok_of (sok_lit _))]
  exact congrArg (fun z => some (RV.im (D.bl z))) (by decide +kernel)
@[local simp] theorem ew5 : eqD (.str "x") (.str "add") = some (.im (.bl false)) := by
  rw [eqD_strA (sok_of (sok_lit _)) (sok_of (sok_lit _))]
  exact congrArg (fun z => some (RV.im (D.bl z))) (by decide +kernel)
@[local simp] theorem ew6 : eqD (.str "x") (.str "subtract") = some (.im (.bl false)) := by
  rw [eqD_strA (sok_of (sok_lit _)) (sok_of (sok_lit _))]
  exact congrArg (fun z => some (RV.im (D.bl z))) (by decide +kernel)
@[local simp] theorem ew7 : eqD (.str "x") (.str "max") = some (.im (.bl false)) := by
  rw [eqD_strA (sok_of (sok_lit _)) (sok_of (sok_lit _))]
  exact congrArg (fun z => some (RV.im (D.bl z))) (by decide +kernel)
@[local simp] theorem ew8 : eqD (.str "number") (.str "number") = some (.im (.bl true)) := by
  rw [eqD_strA (sok_of (sok_lit _)) (sok_of (sok_lit _))]
  exact congrArg (fun z => some (RV.im (D.bl z))) (by decide +kernel)
@[local simp] theorem ew9 : eqD (.str "number") (.str "x") = some (.im (.bl false)) := by
  rw [eqD_strA (sok_of (sok_lit _)) (sok_of (sok_lit _))]
  exact congrArg (fun z => some (RV.im (D.bl z))) (by decide +kernel)
@[local simp] theorem ew10 : eqD (.str "number") (.str "call") = some (.im (.bl false)) := by
  rw [eqD_strA (sok_of (sok_lit _)) (sok_of (sok_lit _))]
  exact congrArg (fun z => some (RV.im (D.bl z))) (by decide +kernel)
@[local simp] theorem ew11 : eqD (.str "number") (.str "multiple") = some (.im (.bl false)) := by
  rw [eqD_strA (sok_of (sok_lit _)) (sok_of (sok_lit _))]
  exact congrArg (fun z => some (RV.im (D.bl z))) (by decide +kernel)
@[local simp] theorem ew12 : eqD (.str "number") (.str "abs") = some (.im (.bl false)) := by
  rw [eqD_strA (sok_of (sok_lit _)) (sok_of (sok_lit _))]
  exact congrArg (fun z => some (RV.im (D.bl z))) (by decide +kernel)
@[local simp] theorem ew13 : eqD (.str "number") (.str "add") = some (.im (.bl false)) := by
  rw [eqD_strA (sok_of (sok_lit _)) (sok_of (sok_lit _))]
  exact congrArg (fun z => some (RV.im (D.bl z))) (by decide +kernel)
@[local simp] theorem ew14 : eqD (.str "number") (.str "subtract") = some (.im (.bl false)) := by
  rw [eqD_strA (sok_of (sok_lit _)) (sok_of (sok_lit _))]
  exact congrArg (fun z => some (RV.im (D.bl z))) (by decide +kernel)
@[local simp] theorem ew15 : eqD (.str "number") (.str "max") = some (.im (.bl false)) := by
  rw [eqD_strA (sok_of (sok_lit _)) (sok_of (sok_lit _))]
  exact congrArg (fun z => some (RV.im (D.bl z))) (by decide +kernel)
@[local simp] theorem ew16 : eqD (.str "abs") (.str "number") = some (.im (.bl false)) := by
  rw [eqD_strA (sok_of (sok_lit _)) (sok_of (sok_lit _))]
  exact congrArg (fun z => some (RV.im (D.bl z))) (by decide +kernel)
@[local simp] theorem ew17 : eqD (.str "abs") (.str "x") = some (.im (.bl false)) := by
  rw [eqD_strA (sok_of (sok_lit _)) (sok_of (sok_lit _))]
  exact congrArg (fun z => some (RV.im (D.bl z))) (by decide +kernel)
@[local simp] theorem ew18 : eqD (.str "abs") (.str "call") = some (.im (.bl false)) := by
  rw [eqD_strA (sok_of (sok_lit _)) (sok_of (sok_lit _))]
  exact congrArg (fun z => some (RV.im (D.bl z))) (by decide +kernel)
@[local simp] theorem ew19 : eqD (.str "abs") (.str "multiple") = some (.im (.bl false)) := by
  rw [eqD_strA (sok_of (sok_lit _)) (sok_of (sok_lit _))]
  exact congrArg (fun z => some (RV.im (D.bl z))) (by decide +kernel)
@[local simp] theorem ew20 : eqD (.str "abs") (.str "abs") = some (.im (.bl true)) := by
  rw [eqD_strA (sok_of (sok_lit _)) (sok_of (sok_lit _))]
  exact congrArg (fun z => some (RV.im (D.bl z))) (by decide +kernel)
@[local simp] theorem ew21 : eqD (.str "abs") (.str "add") = some (.im (.bl false)) := by
  rw [eqD_strA (sok_of (sok_lit _)) (sok_of (sok_lit _))]
  exact congrArg (fun z => some (RV.im (D.bl z))) (by decide +kernel)
@[local simp] theorem ew22 : eqD (.str "abs") (.str "subtract") = some (.im (.bl false)) := by
  rw [eqD_strA (sok_of (sok_lit _)) (sok_of (sok_lit _))]
  exact congrArg (fun z => some (RV.im (D.bl z))) (by decide +kernel)
@[local simp] theorem ew23 : eqD (.str "abs") (.str "max") = some (.im (.bl false)) := by
  rw [eqD_strA (sok_of (sok_lit _)) (sok_of (sok_lit _))]
  exact congrArg (fun z => some (RV.im (D.bl z))) (by decide +kernel)
@[local simp] theorem ew24 : eqD (.str "multiple") (.str "number") = some (.im (.bl false)) := by
  rw [eqD_strA (sok_of (sok_lit _)) (sok_of (sok_lit _))]
  exact congrArg (fun z => some (RV.im (D.bl z))) (by decide +kernel)
@[local simp] theorem ew25 : eqD (.str "multiple") (.str "x") = some (.im (.bl false)) := by
  rw [eqD_strA (sok_of (sok_lit _)) (sok_of (sok_lit _))]
  exact congrArg (fun z => some (RV.im (D.bl z))) (by decide +kernel)
@[local simp] theorem ew26 : eqD (.str "multiple") (.str "call") = some (.im (.bl false)) := by
  rw [eqD_strA (sok_of (sok_lit _)) (sok_of (sok_lit _))]
  exact congrArg (fun z => some (RV.im (D.bl z))) (by decide +kernel)
@[local simp] theorem ew27 : eqD (.str "multiple") (.str "multiple") = some (.im (.bl true)) := by
  rw [eqD_strA (sok_of (sok_lit _)) (sok_of (sok_lit _))]
  exact congrArg (fun z => some (RV.im (D.bl z))) (by decide +kernel)
@[local simp] theorem ew28 : eqD (.str "multiple") (.str "abs") = some (.im (.bl false)) := by
  rw [eqD_strA (sok_of (sok_lit _)) (sok_of (sok_lit _))]
  exact congrArg (fun z => some (RV.im (D.bl z))) (by decide +kernel)
@[local simp] theorem ew29 : eqD (.str "multiple") (.str "add") = some (.im (.bl false)) := by
  rw [eqD_strA (sok_of (sok_lit _)) (sok_of (sok_lit _))]
  exact congrArg (fun z => some (RV.im (D.bl z))) (by decide +kernel)
@[local simp] theorem ew30 : eqD (.str "multiple") (.str "subtract") = some (.im (.bl false)) := by
  rw [eqD_strA (sok_of (sok_lit _)) (sok_of (sok_lit _))]
  exact congrArg (fun z => some (RV.im (D.bl z))) (by decide +kernel)
@[local simp] theorem ew31 : eqD (.str "multiple") (.str "max") = some (.im (.bl false)) := by
  rw [eqD_strA (sok_of (sok_lit _)) (sok_of (sok_lit _))]
  exact congrArg (fun z => some (RV.im (D.bl z))) (by decide +kernel)
@[local simp] theorem ew32 : eqD (.str "call") (.str "number") = some (.im (.bl false)) := by
  rw [eqD_strA (sok_of (sok_lit _)) (sok_of (sok_lit _))]
  exact congrArg (fun z => some (RV.im (D.bl z))) (by decide +kernel)
@[local simp] theorem ew33 : eqD (.str "call") (.str "x") = some (.im (.bl false)) := by
  rw [eqD_strA (sok_of (sok_lit _)) (sok_of (sok_lit _))]
  exact congrArg (fun z => some (RV.im (D.bl z))) (by decide +kernel)
@[local simp] theorem ew34 : eqD (.str "call") (.str "call") = some (.im (.bl true)) := by
  rw [eqD_strA (sok_of (sok_lit _)) (sok_of (sok_lit _))]
  exact congrArg (fun z => some (RV.im (D.bl z))) (by decide +kernel)
@[local simp] theorem ew35 : eqD (.str "call") (.str "multiple") = some (.im (.bl false)) := by
  rw [eqD_strA (sok_of (sok_lit _)) (sok_of (sok_lit _))]
  exact congrArg (fun z => some (RV.im (D.bl z))) (by decide +kernel)
@[local simp] theorem ew36 : eqD (.str "call") (.str "abs") = some (.im (.bl false)) := by
  rw [eqD_strA (sok_of (sok_lit _)) (sok_of (sok_lit _))]
  exact congrArg (fun z => some (RV.im (D.bl z))) (by decide +kernel)
@[local simp] theorem ew37 : eqD (.str "call") (.str "add") = some (.im (.bl false)) := by
  rw [eqD_strA (sok_of (sok_lit _)) (sok_of (sok_lit _))]
  exact congrArg (fun z => some (RV.im (D.bl z))) (by decide +kernel)
@[local simp] theorem ew38 : eqD (.str "call") (.str "subtract") = some (.im (.bl false)) := by
  rw [eqD_strA (sok_of (sok_lit _)) (sok_of (sok_lit _))]
  exact congrArg (fun z => some (RV.im (D.bl z))) (by decide +kernel)
@[local simp] theorem ew39 : eqD (.str "call") (.str "max") = some (.im (.bl false)) := by
  rw [eqD_strA (sok_of (sok_lit _)) (sok_of (sok_lit _))]
  exact congrArg (fun z => some (RV.im (D.bl z))) (by decide +kernel)
@[local simp] theorem ew40 : eqD (.str "add") (.str "number") = some (.im (.bl false)) := by
  rw [eqD_strA (sok_of (sok_lit _)) (sok_of (sok_lit _))]
  exact congrArg (fun z => some (RV.im (D.bl z))) (by decide +kernel)
@[local simp] theorem ew41 : eqD (.str "add") (.str "x") = some (.im (.bl false)) := by
  rw [eqD_strA (sok_of (sok_lit _)) (sok_of (sok_lit _))]
  exact congrArg (fun z => some (RV.im (D.bl z))) (by decide +kernel)
@[local simp] theorem ew42 : eqD (.str "add") (.str "call") = some (.im (.bl false)) := by
  rw [eqD_strA (sok_of (sok_lit _)) (sok_of (sok_lit _))]
  exact congrArg (fun z => some (RV.im (D.bl z))) (by decide +kernel)
@[local simp] theorem ew43 : eqD (.str "add") (.str "multiple") = some (.im (.bl false)) := by
  rw [eqD_strA (sok_of (sok_lit _)) (sok_of (sok_lit _))]
  exact congrArg (fun z => some (RV.im (D.bl z))) (by decide +kernel)
@[local simp] theorem ew44 : eqD (.str "add") (.str "abs") = some (.im (.bl false)) := by
  rw [eqD_strA (sok_of (sok_lit _)) (sok_of (sok_lit _))]
  exact congrArg (fun z => some (RV.im (D.bl z))) (by decide +kernel)
@[local simp] theorem ew45 : eqD (.str "add") (.str "add") = some (.im (.bl true)) := by
  rw [eqD_strA (sok_of (sok_lit _)) (sok_of (sok_lit _))]
  exact congrArg (fun z => some (RV.im (D.bl z))) (by decide +kernel)
@[local simp] theorem ew46 : eqD (.str "add") (.str "subtract") = some (.im (.bl false)) := by
  rw [eqD_strA (sok_of (sok_lit _)) (sok_of (sok_lit _))]
  exact congrArg (fun z => some (RV.im (D.bl z))) (by decide +kernel)
@[local simp] theorem ew47 : eqD (.str "add") (.str "max") = some (.im (.bl false)) := by
  rw [eqD_strA (sok_of (sok_lit _)) (sok_of (sok_lit _))]
  exact congrArg (fun z => some (RV.im (D.bl z))) (by decide +kernel)
@[local simp] theorem ew48 : eqD (.str "subtract") (.str "number") = some (.im (.bl false)) := by
  rw [eqD_strA (sok_of (sok_lit _)) (sok_of (sok_lit _))]
  exact congrArg (fun z => some (RV.im (D.bl z))) (by decide +kernel)
@[local simp] theorem ew49 : eqD (.str "subtract") (.str "x") = some (.im (.bl false)) := by
  rw [eqD_strA (sok_of (sok_lit _)) (sok_of (sok_lit _))]
  exact congrArg (fun z => some (RV.im (D.bl z))) (by decide +kernel)
@[local simp] theorem ew50 : eqD (.str "subtract") (.str "call") = some (.im (.bl false)) := by
  rw [eqD_strA (sok_of (sok_lit _)) (sok_of (sok_lit _))]
  exact congrArg (fun z => some (RV.im (D.bl z))) (by decide +kernel)
@[local simp] theorem ew51 : eqD (.str "subtract") (.str "multiple") = some (.im (.bl false)) := by
  rw [eqD_strA (sok_of (sok_lit _)) (sok_of (sok_lit _))]
  exact congrArg (fun z => some (RV.im (D.bl z))) (by decide +kernel)
@[local simp] theorem ew52 : eqD (.str "subtract") (.str "abs") = some (.im (.bl false)) := by
  rw [eqD_strA (sok_of (sok_lit _)) (sok_of (sok_lit _))]
  exact congrArg (fun z => some (RV.im (D.bl z))) (by decide +kernel)
@[local simp] theorem ew53 : eqD (.str "subtract") (.str "add") = some (.im (.bl false)) := by
  rw [eqD_strA (sok_of (sok_lit _)) (sok_of (sok_lit _))]
  exact congrArg (fun z => some (RV.im (D.bl z))) (by decide +kernel)
@[local simp] theorem ew54 : eqD (.str "subtract") (.str "subtract") = some (.im (.bl true)) := by
  rw [eqD_strA (sok_of (sok_lit _)) (sok_of (sok_lit _))]
  exact congrArg (fun z => some (RV.im (D.bl z))) (by decide +kernel)
@[local simp] theorem ew55 : eqD (.str "subtract") (.str "max") = some (.im (.bl false)) := by
  rw [eqD_strA (sok_of (sok_lit _)) (sok_of (sok_lit _))]
  exact congrArg (fun z => some (RV.im (D.bl z))) (by decide +kernel)
@[local simp] theorem ew56 : eqD (.str "max") (.str "number") = some (.im (.bl false)) := by
  rw [eqD_strA (sok_of (sok_lit _)) (sok_of (sok_lit _))]
  exact congrArg (fun z => some (RV.im (D.bl z))) (by decide +kernel)
@[local simp] theorem ew57 : eqD (.str "max") (.str "x") = some (.im (.bl false)) := by
  rw [eqD_strA (sok_of (sok_lit _)) (sok_of (sok_lit _))]
  exact congrArg (fun z => some (RV.im (D.bl z))) (by decide +kernel)
@[local simp] theorem ew58 : eqD (.str "max") (.str "call") = some (.im (.bl false)) := by
  rw [eqD_strA (sok_of (sok_lit _)) (sok_of (sok_lit _))]
  exact congrArg (fun z => some (RV.im (D.bl z))) (by decide +kernel)
@[local simp] theorem ew59 : eqD (.str "max") (.str "multiple") = some (.im (.bl false)) := by
  rw [eqD_strA (sok_of (sok_lit _)) (sok_of (sok_lit _))]
  exact congrArg (fun z => some (RV.im (D.bl z))) (by decide +kernel)
@[local simp] theorem ew60 : eqD (.str "max") (.str "abs") = some (.im (.bl false)) := by
  rw [eqD_strA (sok_of (sok_lit _)) (sok_of (sok_lit _))]
  exact congrArg (fun z => some (RV.im (D.bl z))) (by decide +kernel)
@[local simp] theorem ew61 : eqD (.str "max") (.str "add") = some (.im (.bl false)) := by
  rw [eqD_strA (sok_of (sok_lit _)) (sok_of (sok_lit _))]
  exact congrArg (fun z => some (RV.im (D.bl z))) (by decide +kernel)
@[local simp] theorem ew62 : eqD (.str "max") (.str "subtract") = some (.im (.bl false)) := by
  rw [eqD_strA (sok_of (sok_lit _)) (sok_of (sok_lit _))]
  exact congrArg (fun z => some (RV.im (D.bl z))) (by decide +kernel)
@[local simp] theorem ew63 : eqD (.str "max") (.str "max") = some (.im (.bl true)) := by
  rw [eqD_strA (sok_of (sok_lit _)) (sok_of (sok_lit _))]
  exact congrArg (fun z => some (RV.im (D.bl z))) (by decide +kernel)
@[local simp] theorem ew64 : eqD (.str "min") (.str "number") = some (.im (.bl false)) := by
  rw [eqD_strA (sok_of (sok_lit _)) (sok_of (sok_lit _))]
  exact congrArg (fun z => some (RV.im (D.bl z))) (by decide +kernel)
@[local simp] theorem ew65 : eqD (.str "min") (.str "x") = some (.im (.bl false)) := by
  rw [eqD_strA (sok_of (sok_lit _)) (sok_of (sok_lit _))]
  exact congrArg (fun z => some (RV.im (D.bl z))) (by decide +kernel)
@[local simp] theorem ew66 : eqD (.str "min") (.str "call") = some (.im (.bl false)) := by
  rw [eqD_strA (sok_of (sok_lit _)) (sok_of (sok_lit _))]
  exact congrArg (fun z => some (RV.im (D.bl z))) (by decide +kernel)
@[local simp] theorem ew67 : eqD (.str "min") (.str "multiple") = some (.im (.bl false)) := by
  rw [eqD_strA (sok_of (sok_lit _)) (sok_of (sok_lit _))]
  exact congrArg (fun z => some (RV.im (D.bl z))) (by decide +kernel)
@[local simp] theorem ew68 : eqD (.str "min") (.str "abs") = some (.im (.bl false)) := by
  rw [eqD_strA (sok_of (sok_lit _)) (sok_of (sok_lit _))]
  exact congrArg (fun z => some (RV.im (D.bl z))) (by decide +kernel)
@[local simp] theorem ew69 : eqD (.str "min") (.str "add") = some (.im (.bl false)) := by
  rw [eqD_strA (sok_of (sok_lit _)) (sok_of (sok_lit _))]
  exact congrArg (fun z => some (RV.im (D.bl z))) (by decide +kernel)
@[local simp] theorem ew70 : eqD (.str "min") (.str "subtract") = some (.im (.bl false)) := by
  rw [eqD_strA (sok_of (sok_lit _)) (sok_of (sok_lit _))]
  exact congrArg (fun z => some (RV.im (D.bl z))) (by decide +kernel)
@[local simp] theorem ew71 : eqD (.str "min") (.str "max") = some (.im (.bl false)) := by
  rw [eqD_strA (sok_of (sok_lit _)) (sok_of (sok_lit _))]
  exact congrArg (fun z => some (RV.im (D.bl z))) (by decide +kernel)
@[simp] theorem unl_tab {T : List (Str × Ex)} : unl (tabD T) = tabD T := rfl
@[local simp] theorem unl_kd {k : Kn} : unl (kdD k) = kdD k := rfl
@[local simp] theorem ix_kd0 {k : Kn} : ixD (kdD k) (.int 0) = some (.im (.str k.1)) := rfl
@[local simp] theorem ix_kd1 {k : Kn} : ixD (kdD k) (.int 1) = some (.im (qD k.2)) := rfl
def kvD (φ : Str → Rat → Rat) (k : Kn) : D := qD (φ k.1 k.2)
def knD (φ : Str → Rat → Rat) (Ks : List Kn) : OC := .xt .dct (Ks.map kdD) (Ks.map (kvD φ))
@[local simp] theorem at_m1 {x : D} : L2.atI [x] (-1) = some x := rfl
@[local simp] theorem at_m2 {x y : D} : L2.atI [x, y] (-1) = some y := rfl
theorem num_nn {q : Rat} : 0 ≤ q.num ↔ 0 ≤ q := Rat.num_nonneg
theorem Qy.zero : Qy 0 := ⟨by unfold Sml; decide +kernel, Nat.one_lt_two_pow (by decide)⟩
abbrev opK : List Str := ["add", "subtract", "max", "min"]
abbrev opKV : List (D × D) := [(.str "add", .fn "add"), (.str "subtract", .fn "subtract"), (.str "max", .fn "larger"), (.str "min", .fn "smaller")]
abbrev opTb : D := .xt .dct [.str "add", .str "subtract", .str "max", .str "min"] [.fn "add", .fn "subtract", .fn "larger", .fn "smaller"]
def opFn (f : Str) : D := .fn (if f = "add" then "add" else if f = "subtract" then "subtract" else if f = "max" then "larger" else "smaller")
theorem op_disp {ρ : SE} : dispR opKV ρ = .ok (.ow (.xt .dct [.str "add", .str "subtract", .str "max", .str "min"] [.fn "add", .fn "subtract", .fn "larger", .fn "smaller"])) ρ := if_pos (by decide +kernel)
theorem op_map : opTb = .xt .dct (opK.map D.str) (opK.map opFn) := by
  have e1 : opFn "add" = .fn "add" := by unfold opFn; rw [if_pos rfl]
  have e2 : opFn "subtract" = .fn "subtract" := by unfold opFn; rw [if_neg (by decide +kernel), if_pos rfl]
  have e3 : opFn "max" = .fn "larger" := by unfold opFn; rw [if_neg (by decide +kernel), if_neg (by decide +kernel), if_pos rfl]
  have e4 : opFn "min" = .fn "smaller" := by unfold opFn; rw [if_neg (by decide +kernel), if_neg (by decide +kernel), if_neg (by decide +kernel)]
  show D.xt .dct _ [.fn "add", .fn "subtract", .fn "larger", .fn "smaller"] = D.xt .dct _ [opFn "add", opFn "subtract", opFn "max", opFn "min"]
  rw [e1, e2, e3, e4]
  rfl
theorem op_get {f : Str} (hf : f ∈ opK) : xgetD opTb (.str f) = some (.im (opFn f)) := by
  rw [op_map]
  have e : xgetD (.xt .dct (opK.map D.str) (opK.map opFn)) (.str f) = if kyB (.str f) (opK.map D.str) = true then (dGet (.str f) (opK.map D.str) (opK.map opFn)).map RV.im else none := rfl
  rw [e, if_pos (keyS.ky (x := f)), keyS.getMap hf]
  rfl
@[local simp] theorem op_add : xgetD opTb (.str "add") = some (.im (.fn "add")) := by
  rw [op_get (by decide +kernel)]; unfold opFn; rw [if_pos rfl]
@[local simp] theorem op_sub : xgetD opTb (.str "subtract") = some (.im (.fn "subtract")) := by
  rw [op_get (by decide +kernel)]; unfold opFn; rw [if_neg (by decide +kernel), if_pos rfl]
@[local simp] theorem op_max : xgetD opTb (.str "max") = some (.im (.fn "larger")) := by
  rw [op_get (by decide +kernel)]; unfold opFn; rw [if_neg (by decide +kernel), if_neg (by decide +kernel), if_pos rfl]
@[local simp] theorem op_min : xgetD opTb (.str "min") = some (.im (.fn "smaller")) := by
  rw [op_get (by decide +kernel)]; unfold opFn; rw [if_neg (by decide +kernel), if_neg (by decide +kernel), if_neg (by decide +kernel)]
noncomputable abbrev opM : List (Str × (SE → R RV)) := [("add", m_add), ("subtract", m_subtract), ("larger", m_larger), ("smaller", m_smaller)]
theorem om_add : opM.lookup ("add" : Str) = some m_add := by rw [List.lookup_cons, beq_self_eq_true]
theorem om_sub : opM.lookup ("subtract" : Str) = some m_subtract := by rw [List.lookup_cons, show (("subtract" : Str) == "add") = false from by decide +kernel, List.lookup_cons, beq_self_eq_true]
theorem om_max : opM.lookup ("larger" : Str) = some m_larger := by rw [List.lookup_cons, show (("larger" : Str) == "add") = false from by decide +kernel, List.lookup_cons, show (("larger" : Str) == "subtract") = false from by decide +kernel, List.lookup_cons, beq_self_eq_true]
theorem om_min : opM.lookup ("smaller" : Str) = some m_smaller := by rw [List.lookup_cons, show (("smaller" : Str) == "add") = false from by decide +kernel, List.lookup_cons, show (("smaller" : Str) == "subtract") = false from by decide +kernel, List.lookup_cons, show (("smaller" : Str) == "larger") = false from by decide +kernel, List.lookup_cons, beq_self_eq_true]
theorem put_same {κ : Type} [DecidableEq κ] {f g : κ → D} (h : KeyF f) {l : List κ} {x : κ} (hx : x ∈ l) : putVs (f x) (l.map f) (g x) (l.map g) = l.map g := by
  unfold putVs
  rw [h.fIx]
  cases e : l.findIdx? fun y => decide (y = x) with
  | none =>
    rw [List.findIdx?_eq_none_iff] at e
    have z := e x hx
    simp at z
  | some i =>
    obtain ⟨lt, ei, _⟩ := List.findIdx?_eq_some_iff_getElem.mp e
    have ei : l[i] = x := by simpa using ei
    show (l.map g).set i (g x) = l.map g
    have e2 : (l.map g)[i]'(by rw [List.length_map]; exact lt) = g x := by rw [List.getElem_map, ei]
    rw [← e2]
    exact List.set_getElem_self _
variable {T : List (Str × Ex)} {φ : Str → Rat → Rat} {wt hd : Str → Nat} {P : Str → Prop} (τ : Tab T φ wt hd P)
include τ
theorem valof_wp : ∀ (n : Nat) {e : Ex} {v : Rat} {d s a : Nat} {Ks : List Kn} {Q : RV → SE → Prop} {E : Exc → SE → Prop}, hE hd e ≤ n → ExOk P e → In d s v → 0 < d → d < 2 ^ a → s < 2 ^ a → a + wE wt e + 1 ≤ 4400 → Ks.length + 2 ^ n ≤ 100000 →
    (∀ Ks', Ks'.length + 1 ≤ Ks.length + 2 ^ n → Q (.im (qD (evx φ e v))) [.im (exD e), .im (qD v), .im (tabD T), .ow true (knD φ Ks')]) → WP (m_value_of n [.im (exD e), .im (qD v), .im (tabD T), .ow true (knD φ Ks)]) Q E
  | 0, e, v, d, s, a, Ks, Q, E, h, _, _, _, _, _, _, _, _ => by cases e <;> simp [hE] at h
  | n + 1, e, v, d, s, a, Ks, Q, E, h, ok, hv, d0, hd2, hs, hw, hk, K => by
    have es : m_value_of (n + 1) = mFn n_value_of.length (b_value_of (m_value_of n)) := rfl
    have p2 : 2 ^ (n + 1) = 2 ^ n + 2 ^ n := by rw [Nat.pow_succ]; omega
    have p1 : 1 ≤ 2 ^ n := Nat.one_le_two_pow
    rw [es]
    cases e with
    | x =>
      refine wp_fn ?_
      simp [b_value_of, exD]
      exact K Ks (by omega)
    | num q =>
      refine wp_fn ?_
      simp [b_value_of, exD]
      exact K Ks (by omega)
    | ab e =>
      have b := evx_bd τ.phi hv e ok
      have qy := b.qy2 d0 hd2 hs hw
      have q0 : Qy 0 := Qy.zero
      refine wp_fn ?_
      simp [b_value_of, exD]
      refine valof_wp n (e := e) (by unfold hE at h; omega) ok hv d0 hd2 hs hw (by omega) fun Ks' hk' => ?_
      have sy := subtract_y q0 qy
      have KK := K Ks' (by omega)
      have ea : evx φ (.ab e) v = absQ (evx φ e v) := rfl
      rw [ea] at KK
      generalize evx φ e v = r at *
      simp [knD]
      by_cases c : 0 ≤ r
      · have c2 : 0 ≤ r.num := num_nn.mpr c
        have e2 : absQ r = r := if_pos c
        rw [e2] at KK
        simp [qD, c2]
        exact KK
      · have c2 : ¬ 0 ≤ r.num := fun z => c (num_nn.mp z)
        have e2 : absQ r = 0 - r := (if_neg c).trans (by grind)
        rw [e2] at KK
        have sz : m_subtract [.im c_ZERO, .im (.tup [.int r.num, .int (r.den : Int)])] = .ok (.im (qD (0 - r))) [.im c_ZERO, .im (.tup [.int r.num, .int (r.den : Int)])] := sy
        simp [qD, c2, sz]
        exact KK
    | mul q e =>
      have hw' : a + (wE wt e + 20) + 1 ≤ 4400 := hw
      have b := evx_bd τ.phi hv e ok.2
      have qy := b.qy2 d0 hd2 hs (by omega)
      have qq : Qy q := ⟨Sml.of (k := 20) (by have := ok.1.1; omega) (by decide) (by decide), Nat.lt_of_lt_of_le (show q.den < 2 ^ 20 by have := ok.1.2; omega) (Nat.pow_le_pow_right (by decide) (by decide))⟩
      have my := multiply_y qq qy
      refine wp_fn ?_
      simp [b_value_of, exD]
      refine valof_wp n (e := e) (by unfold hE at h; omega) ok.2 hv d0 hd2 hs (by omega) (by omega) fun Ks' hk' => ?_
      have KK := K Ks' (by omega)
      simp [my, knD]
      exact KK
    | call f e =>
      have hw' : a + (wE wt e + wt f + 1) + 1 ≤ 4400 := hw
      have h' : max (hE hd e) (hd f) + 1 ≤ n + 1 := h
      have be := evx_bd τ.phi hv e ok.2
      have qe := be.qy2 d0 hd2 hs (by omega)
      have mf := τ.mem f ok.1
      have tg := tab_get τ.nd mf
      have ev : evx φ (.call f e) v = φ f (evx φ e v) := rfl
      rw [ev] at K
      refine wp_fn ?_
      simp [b_value_of, exD]
      refine valof_wp n (e := e) (by omega) ok.2 hv d0 hd2 hs (by omega) (by omega) fun Ks1 hk1 => ?_
      obtain ⟨A, A0, A1, hi⟩ := be.inn hv.s1
      generalize evx φ e v = r at *
      have kd : D.tup [.str f, qD r] = kdD (f, r) := rfl
      have ky := keyKd.ky (x := (f, r)) (l := Ks1)
      have xi : xinD true (kdD (f, r)) (.xt .dct (Ks1.map kdD) (Ks1.map (kvD φ))) = some (.im (.bl (!decide ((f, r) ∈ Ks1)))) := by
        have z : xinD true (kdD (f, r)) (.xt .dct (Ks1.map kdD) (Ks1.map (kvD φ))) = if kyB (kdD (f, r)) (Ks1.map kdD) = true then some (.im (.bl (true != dHas (kdD (f, r)) (Ks1.map kdD)))) else none := rfl
        rw [z, if_pos ky, keyKd.has]
        simp
      have gt : ∀ Ks : List Kn, (f, r) ∈ Ks → xgetD (.xt .dct (Ks.map kdD) (Ks.map (kvD φ))) (kdD (f, r)) = some (.im (qD (φ f r))) := fun Ks hx => by
        have z : xgetD (.xt .dct (Ks.map kdD) (Ks.map (kvD φ))) (kdD (f, r)) = if kyB (kdD (f, r)) (Ks.map kdD) = true then (dGet (kdD (f, r)) (Ks.map kdD) (Ks.map (kvD φ))).map RV.im else none := rfl
        rw [z, if_pos (keyKd.ky (x := (f, r))), keyKd.getMap hx]
        rfl
      by_cases hm : (f, r) ∈ Ks1
      · have g := gt Ks1 hm
        simp [knD, kd, xi, hm, g]
        exact K Ks1 (by omega)
      · simp [knD, kd, xi, hm, tg]
        have l1 : d * A < 2 ^ (a + (wE wt e + 1)) := pow_mul_lt hd2 A1 A0
        have l2 : s * 2 ^ (wE wt e + 1) < 2 ^ (a + (wE wt e + 1)) := by
          rw [Nat.pow_add 2 a (wE wt e + 1)]
          exact Nat.mul_lt_mul_of_pos_right hs (Nat.two_pow_pos _)
        have w1 := τ.wto f ok.1
        have h1 := τ.hdo f ok.1
        refine valof_wp n (e := defOf T f) (Ks := Ks1) (by omega) (τ.ok f ok.1) hi (Nat.mul_pos d0 A0) l1 l2 (by omega) (by omega) fun Ks2 hk2 => ?_
        rw [← τ.fix f ok.1 r]
        have ky2 := keyKd.ky (x := (f, r)) (l := Ks2)
        have kl2 : kyB (kdD (f, r)) (Ks2.map kdD) = true ∧ Ks2.length < 1000000 := ⟨ky2, by omega⟩
        have pk := keyKd.putK (l := Ks2) (x := (f, r))
        by_cases hm2 : (f, r) ∈ Ks2
        · rw [if_pos hm2] at pk
          have pv := put_same keyKd (g := kvD φ) hm2
          have pv : putVs (kdD (f, r)) (Ks2.map kdD) (qD (φ f r)) (Ks2.map (kvD φ)) = Ks2.map (kvD φ) := pv
          have g := gt Ks2 hm2
          simp [knD, kl2, pk, pv, g]
          exact K Ks2 (by omega)
        · rw [if_neg hm2] at pk
          have pv := keyKd.putV (l := Ks2) (x := (f, r)) (v := qD (φ f r)) hm2 (vs := Ks2.map (kvD φ))
          have g := gt (Ks2 ++ [(f, r)]) (by simp)
          have ev : Ks2.map (kvD φ) ++ [qD (φ f r)] = (Ks2 ++ [(f, r)]).map (kvD φ) := by rw [List.map_append]; rfl
          rw [ev] at pv
          simp [-List.map_append, knD, kl2, pk, pv, g]
          exact K (Ks2 ++ [(f, r)]) (by rw [List.length_append]; show _ + 1 + 1 ≤ _; omega)
    | bin o x y =>
      have hw' : a + (wE wt x + wE wt y + 1) + 1 ≤ 4400 := hw
      have h' : max (hE hd x) (hE hd y) + 1 ≤ n + 1 := h
      have bx := evx_bd τ.phi hv x ok.1
      have by_ := evx_bd τ.phi hv y ok.2
      have qx := bx.qy2 d0 hd2 hs (by omega)
      have qy := by_.qy2 d0 hd2 hs (by omega)
      have KK := fun Ks' h => K Ks' h
      have eb : evx φ (.bin o x y) v = binQ o (evx φ x v) (evx φ y v) := rfl
      rw [eb] at KK
      have ay := add_y qx qy
      have sy := subtract_y qx qy
      have ly := larger_y qx qy
      have my := smaller_y qx qy
      refine wp_fn ?_
      cases o with
      | add =>
        simp [b_value_of, exD, boS]
        refine valof_wp n (e := y) (by omega) ok.2 hv d0 hd2 hs (by omega) (by omega) fun Ks1 hk1 => ?_
        simp [knD]
        refine valof_wp n (e := x) (by omega) ok.1 hv d0 hd2 hs (by omega) (by omega) fun Ks2 hk2 => ?_
        simp [knD]
        refine wp_callF ?_
        simp [op_disp]
        rw [callFK_at om_add]
        simp [ay]
        exact KK Ks2 (by omega)
      | sub =>
        simp [b_value_of, exD, boS]
        refine valof_wp n (e := y) (by omega) ok.2 hv d0 hd2 hs (by omega) (by omega) fun Ks1 hk1 => ?_
        simp [knD]
        refine valof_wp n (e := x) (by omega) ok.1 hv d0 hd2 hs (by omega) (by omega) fun Ks2 hk2 => ?_
        simp [knD]
        refine wp_callF ?_
        simp [op_disp]
        rw [callFK_at om_sub]
        simp [sy]
        exact KK Ks2 (by omega)
      | mx =>
        simp [b_value_of, exD, boS]
        refine valof_wp n (e := y) (by omega) ok.2 hv d0 hd2 hs (by omega) (by omega) fun Ks1 hk1 => ?_
        simp [knD]
        refine valof_wp n (e := x) (by omega) ok.1 hv d0 hd2 hs (by omega) (by omega) fun Ks2 hk2 => ?_
        simp [knD]
        refine wp_callF ?_
        simp [op_disp]
        rw [callFK_at om_max]
        simp [ly]
        exact KK Ks2 (by omega)
      | mn =>
        simp [b_value_of, exD, boS]
        refine valof_wp n (e := y) (by omega) ok.2 hv d0 hd2 hs (by omega) (by omega) fun Ks1 hk1 => ?_
        simp [knD]
        refine valof_wp n (e := x) (by omega) ok.1 hv d0 hd2 hs (by omega) (by omega) fun Ks2 hk2 => ?_
        simp [knD]
        refine wp_callF ?_
        simp [op_disp]
        rw [callFK_at om_min]
        simp [my]
        exact KK Ks2 (by omega)
end
end Kx

/- part -/
set_option Elab.async false
set_option linter.all false
set_option maxRecDepth 100000
set_option maxHeartbeats 8000000
namespace Kx
open PySem DL PyProof.Rows
section
@[local simp] theorem lw0 : eqD (.str "x") (.str "number") = some (.im (.bl false)) := ew0
@[local simp] theorem lw1 : eqD (.str "x") (.str "x") = some (.im (.bl true)) := ew1
@[local simp] theorem lw2 : eqD (.str "x") (.str "call") = some (.im (.bl false)) := ew2
@[local simp] theorem lw3 : eqD (.str "x") (.str "multiple") = some (.im (.bl false)) := ew3
@[local simp] theorem lw4 : eqD (.str "x") (.str "abs") = some (.im (.bl false)) := ew4
@[local simp] theorem lw5 : eqD (.str "x") (.str "add") = some (.im (.bl false)) := ew5
@[local simp] theorem lw6 : eqD (.str "x") (.str "subtract") = some (.im (.bl false)) := ew6
@[local simp] theorem lw7 : eqD (.str "x") (.str "max") = some (.im (.bl false)) := ew7
@[local simp] theorem lw8 : eqD (.str "number") (.str "number") = some (.im (.bl true)) := ew8
@[local simp] theorem lw9 : eqD (.str "number") (.str "x") = some (.im (.bl false)) := ew9
@[local simp] theorem lw10 : eqD (.str "number") (.str "call") = some (.im (.bl false)) := ew10
@[local simp] theorem lw11 : eqD (.str "number") (.str "multiple") = some (.im (.bl false)) := ew11
@[local simp] theorem lw12 : eqD (.str "number") (.str "abs") = some (.im (.bl false)) := ew12
@[local simp] theorem lw13 : eqD (.str "number") (.str "add") = some (.im (.bl false)) := ew13
@[local simp] theorem lw14 : eqD (.str "number") (.str "subtract") = some (.im (.bl false)) := ew14
@[local simp] theorem lw15 : eqD (.str "number") (.str "max") = some (.im (.bl false)) := ew15
@[local simp] theorem lw16 : eqD (.str "abs") (.str "number") = some (.im (.bl false)) := ew16
@[local simp] theorem lw17 : eqD (.str "abs") (.str "x") = some (.im (.bl false)) := ew17
@[local simp] theorem lw18 : eqD (.str "abs") (.str "call") = some (.im (.bl false)) := ew18
@[local simp] theorem lw19 : eqD (.str "abs") (.str "multiple") = some (.im (.bl false)) := ew19
@[local simp] theorem lw20 : eqD (.str "abs") (.str "abs") = some (.im (.bl true)) := ew20
@[local simp] theorem lw21 : eqD (.str "abs") (.str "add") = some (.im (.bl false)) := ew21
@[local simp] theorem lw22 : eqD (.str "abs") (.str "subtract") = some (.im (.bl false)) := ew22
@[local simp] theorem lw23 : eqD (.str "abs") (.str "max") = some (.im (.bl false)) := ew23
@[local simp] theorem lw24 : eqD (.str "multiple") (.str "number") = some (.im (.bl false)) := ew24
@[local simp] theorem lw25 : eqD (.str "multiple") (.str "x") = some (.im (.bl false)) := ew25
@[local simp] theorem lw26 : eqD (.str "multiple") (.str "call") = some (.im (.bl false)) := ew26
@[local simp] theorem lw27 : eqD (.str "multiple") (.str "multiple") = some (.im (.bl true)) := ew27
@[local simp] theorem lw28 : eqD (.str "multiple") (.str "abs") = some (.im (.bl false)) := ew28
@[local simp] theorem lw29 : eqD (.str "multiple") (.str "add") = some (.im (.bl false)) := ew29
@[local simp] theorem lw30 : eqD (.str "multiple") (.str "subtract") = some (.im (.bl false)) := ew30
@[local simp] theorem lw31 : eqD (.str "multiple") (.str "max") = some (.im (.bl false)) := ew31
@[local simp] theorem lw32 : eqD (.str "call") (.str "number") = some (.im (.bl false)) := ew32
@[local simp] theorem lw33 : eqD (.str "call") (.str "x") = some (.im (.bl false)) := ew33
@[local simp] theorem lw34 : eqD (.str "call") (.str "call") = some (.im (.bl true)) := ew34
@[local simp] theorem lw35 : eqD (.str "call") (.str "multiple") = some (.im (.bl false)) := ew35
@[local simp] theorem lw36 : eqD (.str "call") (.str "abs") = some (.im (.bl false)) := ew36
@[local simp] theorem lw37 : eqD (.str "call") (.str "add") = some (.im (.bl false)) := ew37
@[local simp] theorem lw38 : eqD (.str "call") (.str "subtract") = some (.im (.bl false)) := ew38
@[local simp] theorem lw39 : eqD (.str "call") (.str "max") = some (.im (.bl false)) := ew39
@[local simp] theorem lw40 : eqD (.str "add") (.str "number") = some (.im (.bl false)) := ew40
@[local simp] theorem lw41 : eqD (.str "add") (.str "x") = some (.im (.bl false)) := ew41
@[local simp] theorem lw42 : eqD (.str "add") (.str "call") = some (.im (.bl false)) := ew42
@[local simp] theorem lw43 : eqD (.str "add") (.str "multiple") = some (.im (.bl false)) := ew43
@[local simp] theorem lw44 : eqD (.str "add") (.str "abs") = some (.im (.bl false)) := ew44
@[local simp] theorem lw45 : eqD (.str "add") (.str "add") = some (.im (.bl true)) := ew45
@[local simp] theorem lw46 : eqD (.str "add") (.str "subtract") = some (.im (.bl false)) := ew46
@[local simp] theorem lw47 : eqD (.str "add") (.str "max") = some (.im (.bl false)) := ew47
@[local simp] theorem lw48 : eqD (.str "subtract") (.str "number") = some (.im (.bl false)) := ew48
@[local simp] theorem lw49 : eqD (.str "subtract") (.str "x") = some (.im (.bl false)) := ew49
@[local simp] theorem lw50 : eqD (.str "subtract") (.str "call") = some (.im (.bl false)) := ew50
@[local simp] theorem lw51 : eqD (.str "subtract") (.str "multiple") = some (.im (.bl false)) := ew51
@[local simp] theorem lw52 : eqD (.str "subtract") (.str "abs") = some (.im (.bl false)) := ew52
@[local simp] theorem lw53 : eqD (.str "subtract") (.str "add") = some (.im (.bl false)) := ew53
@[local simp] theorem lw54 : eqD (.str "subtract") (.str "subtract") = some (.im (.bl true)) := ew54
@[local simp] theorem lw55 : eqD (.str "subtract") (.str "max") = some (.im (.bl false)) := ew55
@[local simp] theorem lw56 : eqD (.str "max") (.str "number") = some (.im (.bl false)) := ew56
@[local simp] theorem lw57 : eqD (.str "max") (.str "x") = some (.im (.bl false)) := ew57
@[local simp] theorem lw58 : eqD (.str "max") (.str "call") = some (.im (.bl false)) := ew58
@[local simp] theorem lw59 : eqD (.str "max") (.str "multiple") = some (.im (.bl false)) := ew59
@[local simp] theorem lw60 : eqD (.str "max") (.str "abs") = some (.im (.bl false)) := ew60
@[local simp] theorem lw61 : eqD (.str "max") (.str "add") = some (.im (.bl false)) := ew61
@[local simp] theorem lw62 : eqD (.str "max") (.str "subtract") = some (.im (.bl false)) := ew62
@[local simp] theorem lw63 : eqD (.str "max") (.str "max") = some (.im (.bl true)) := ew63
@[local simp] theorem lw64 : eqD (.str "min") (.str "number") = some (.im (.bl false)) := ew64
@[local simp] theorem lw65 : eqD (.str "min") (.str "x") = some (.im (.bl false)) := ew65
@[local simp] theorem lw66 : eqD (.str "min") (.str "call") = some (.im (.bl false)) := ew66
@[local simp] theorem lw67 : eqD (.str "min") (.str "multiple") = some (.im (.bl false)) := ew67
@[local simp] theorem lw68 : eqD (.str "min") (.str "abs") = some (.im (.bl false)) := ew68
@[local simp] theorem lw69 : eqD (.str "min") (.str "add") = some (.im (.bl false)) := ew69
@[local simp] theorem lw70 : eqD (.str "min") (.str "subtract") = some (.im (.bl false)) := ew70
@[local simp] theorem lw71 : eqD (.str "min") (.str "max") = some (.im (.bl false)) := ew71
@[local simp] theorem lat_m1 {x : D} : L2.atI [x] (-1) = some x := rfl
@[local simp] theorem lat_m2 {x y : D} : L2.atI [x, y] (-1) = some y := rfl
@[local simp] theorem lat_m3 {x y z : D} : L2.atI [x, y, z] (-1) = some z := rfl
variable {T : List (Str × Ex)} {φ : Str → Rat → Rat} {wt hd : Str → Nat} {P : Str → Prop} (τ : Tab T φ wt hd P)
theorem abs_qD {r : Rat} : D.tup [.int ((r.num.natAbs : Nat) : Int), .int (r.den : Int)] = qD (absQ r) := by
  unfold absQ
  split
  · rename_i h
    have := num_nn.mpr h
    unfold qD
    rw [show ((r.num.natAbs : Nat) : Int) = r.num by omega]
  · rename_i h
    have : ¬ 0 ≤ r.num := fun z => h (num_nn.mp z)
    unfold qD
    rw [Rat.neg_num, Rat.neg_den, show ((r.num.natAbs : Nat) : Int) = -r.num by omega]
include τ
theorem lval_ok : ∀ (n : Nat) {e : Ex} {v : Rat} {d s a : Nat}, hE hd e ≤ n → ExOk P e → In d s v → 0 < d → d < 2 ^ a → s < 2 ^ a → a + wE wt e + 1 ≤ 4400 →
    m__law_evaluated n [.im (exD e), .im (qD v), .im (tabD T)] = .ok (.im (qD (evx φ e v))) [.im (exD e), .im (qD v), .im (tabD T)]
  | 0, e, v, d, s, a, h, _, _, _, _, _, _ => by cases e <;> simp [hE] at h
  | n + 1, e, v, d, s, a, h, ok, hv, d0, hd2, hs, hw => by
    have es : m__law_evaluated (n + 1) = mFn n__law_evaluated.length (b__law_evaluated (m__law_evaluated n)) := rfl
    rw [es]
    cases e with
    | x =>
      refine Wp.eq (wp_fn ?_)
      simp [b__law_evaluated, exD, evx]
    | num q =>
      refine Wp.eq (wp_fn ?_)
      simp [b__law_evaluated, exD, evx]
    | ab e =>
      have i1 := lval_ok n (e := e) (by unfold hE at h; omega) ok hv d0 hd2 hs hw
      have ea : evx φ (.ab e) v = absQ (evx φ e v) := rfl
      rw [ea]
      refine Wp.eq (wp_fn ?_)
      simp [b__law_evaluated, exD, i1]
      generalize evx φ e v = r at *
      rw [← abs_qD]
      simp [qD]
    | mul q e =>
      have hw' : a + (wE wt e + 20) + 1 ≤ 4400 := hw
      have b := evx_bd τ.phi hv e ok.2
      have qy := b.qy2 d0 hd2 hs (by omega)
      have qq : Qy q := ⟨Sml.of (k := 20) (by have := ok.1.1; omega) (by decide) (by decide), Nat.lt_of_lt_of_le (show q.den < 2 ^ 20 by have := ok.1.2; omega) (Nat.pow_le_pow_right (by decide) (by decide))⟩
      have i1 := lval_ok n (e := e) (by unfold hE at h; omega) ok.2 hv d0 hd2 hs (by omega)
      have my := _law_times_y qq qy
      have ea : evx φ (.mul q e) v = q * evx φ e v := rfl
      rw [ea]
      refine Wp.eq (wp_fn ?_)
      simp [b__law_evaluated, exD, i1, my]
    | call f e =>
      have hw' : a + (wE wt e + wt f + 1) + 1 ≤ 4400 := hw
      have h' : max (hE hd e) (hd f) + 1 ≤ n + 1 := h
      have be := evx_bd τ.phi hv e ok.2
      have tg := tab_get τ.nd (τ.mem f ok.1)
      have ev : evx φ (.call f e) v = φ f (evx φ e v) := rfl
      rw [ev]
      have i1 := lval_ok n (e := e) (by omega) ok.2 hv d0 hd2 hs (by omega)
      obtain ⟨A, A0, A1, hi⟩ := be.inn hv.s1
      generalize evx φ e v = r at *
      have l1 : d * A < 2 ^ (a + (wE wt e + 1)) := pow_mul_lt hd2 A1 A0
      have l2 : s * 2 ^ (wE wt e + 1) < 2 ^ (a + (wE wt e + 1)) := by
        rw [Nat.pow_add 2 a (wE wt e + 1)]
        exact Nat.mul_lt_mul_of_pos_right hs (Nat.two_pow_pos _)
      have w1 := τ.wto f ok.1
      have h1 := τ.hdo f ok.1
      have i2 := lval_ok n (e := defOf T f) (by omega) (τ.ok f ok.1) hi (Nat.mul_pos d0 A0) l1 l2 (by omega)
      rw [← τ.fix f ok.1 r] at i2
      refine Wp.eq (wp_fn ?_)
      simp [b__law_evaluated, exD, i1, tg, i2]
    | bin o x y =>
      have hw' : a + (wE wt x + wE wt y + 1) + 1 ≤ 4400 := hw
      have h' : max (hE hd x) (hE hd y) + 1 ≤ n + 1 := h
      have qx := (evx_bd τ.phi hv x ok.1).qy2 d0 hd2 hs (by omega)
      have qy := (evx_bd τ.phi hv y ok.2).qy2 d0 hd2 hs (by omega)
      have eb : evx φ (.bin o x y) v = binQ o (evx φ x v) (evx φ y v) := rfl
      rw [eb]
      have i1 := lval_ok n (e := y) (by omega) ok.2 hv d0 hd2 hs (by omega)
      have i2 := lval_ok n (e := x) (by omega) ok.1 hv d0 hd2 hs (by omega)
      generalize evx φ x v = p at *
      generalize evx φ y v = q at *
      have ay := _law_plus_y qx qy
      have sy := _law_minus_y qx qy
      have ly := _law_less_y qx qy
      refine Wp.eq (wp_fn ?_)
      cases o with
      | add => simp [b__law_evaluated, exD, boS, i1, i2, ay, binQ]
      | sub => simp [b__law_evaluated, exD, boS, i1, i2, sy, binQ]
      | mx => by_cases c : p < q <;> simp [b__law_evaluated, exD, boS, i1, i2, ly, binQ, c]
      | mn => by_cases c : p < q <;> simp [b__law_evaluated, exD, boS, i1, i2, ly, binQ, c]
end
end Kx

/- part -/
set_option Elab.async false
set_option linter.all false
set_option maxRecDepth 100000
set_option maxHeartbeats 8000000
namespace Kx
open PySem DL PyProof.Rows
theorem names_wpN {r : List D} {many : Int} {Q : RV → SE → Prop} {E : Exc → SE → Prop} (hr : RngOk r) (h0 : 0 ≤ many) (h1 : many ≤ 26)
    (k : ∀ (l : List Str) r', (l.length : Int) = many → (∀ x ∈ l, NmOk x) → l.Nodup → RngOk r' → Q (.ow (.ls (l.map D.str))) [.ow true (.ls r'), .im (.int many)]) : WP (m__law_names [.ow true (.ls r), .im (.int many)]) Q E := by
  refine wp_fn ?_
  simp [b__law_names]
  refine draw_wp hr (by omega) (by omega) fun k1 r1 a1 a2 hr1 => ?_
  simp
  refine pick_wp hr1 (by simp) (by simp) fun d2 r2 hd2 hr2 => ?_
  obtain ⟨st, rfl, ⟨s1, st5⟩, s2⟩ : ∃ st : Int, d2 = .int st ∧ (1 ≤ st ∧ (st = 1 ∨ st = 3 ∨ st = 5 ∨ st = 7 ∨ st = 9)) ∧ st ≤ 9 := by
    simp only [List.mem_cons, List.not_mem_nil, or_false] at hd2
    rcases hd2 with rfl | rfl | rfl | rfl | rfl
    all_goals exact ⟨_, rfl, ⟨by decide, by decide⟩, by decide⟩
  simp
  refine draw_wp hr2 (by omega) (by omega) fun lead r3 c1 c2 hr3 => ?_
  simp
  refine draw_wp hr3 (by omega) (by omega) fun at_ r4 e1 e2 hr4 => ?_
  obtain ⟨w, hw, w1, w2⟩ : ∃ w : Nat, 2 + k1 = w ∧ 2 ≤ w ∧ w ≤ 7 := ⟨(2 + k1).toNat, by omega, by omega, by omega⟩
  obtain ⟨ai, rfl⟩ := Int.eq_ofNat_of_zero_le e1
  have gw : rngOk (w : Int) = true := decide_eq_true (by omega)
  rw [hw] at e2
  simp [hw, gw]
  refine wp_cloopJ (fun i acc ρ => ∃ (cs : List Nat) (r' : List D), acc = cs.map (fun c => D.str ⟨#[c]⟩) ∧ cs.length = i ∧ (∀ c ∈ cs, lowc c = true) ∧ RngOk r' ∧ ρ = [.ow true (.ls r'), .im (.int many), .im (.int (w : Int)), .im (.int st), .im (.int lead), .im (.int (ai : Int)), .no, .no, .no, .no, .no]) (by simp; omega) ⟨[], r4, rfl, rfl, by simp, hr4, rfl⟩ ?_ ?_ ?_
  · rintro i acc ρ ⟨cs, r', rfl, z2, z3, z4, rfl⟩
    exact ⟨rfl, by simp; omega⟩
  · rintro i d acc ρ J hd ⟨cs, r', rfl, z2, z3, z4, rfl⟩ hJ
    simp [letters_ok]
    refine pick_abc z4 fun c rr hc hrr => ?_
    simp [rest]
    refine hJ _ _ ⟨cs ++ [c], rr, by simp, by simp [z2], fun x hx => ?_, hrr, rfl⟩
    rcases List.mem_append.mp hx with z | z
    · exact z3 x z
    · rw [List.mem_singleton.mp z]
      exact hc
  · rintro acc ρ ⟨cs, r5, rfl, lcs, low, hr5, rfl⟩
    have lcs : cs.length = w := by simpa using lcs
    obtain ⟨m, hm⟩ := Int.eq_ofNat_of_zero_le h0
    subst hm
    have gm : rngOk (m : Int) = true := decide_eq_true (by omega)
    simp [join_tx (cs := cs) (by omega), gm]
    let nmA : Nat → List Nat := fun j => cs.take ai ++ [(97 + (lead + st * (j : Int)).fmod 26).toNat] ++ cs.drop (ai + 1)
    refine wp_floopJ (fun i ρ => ∃ (l : List Str) (y7 y9 : SV), l = (List.range i).map (fun j => tx (nmA j)) ∧ Imm y7 ∧ Imm y9 ∧ l.length = i ∧ (∀ x ∈ l, (∀ c ∈ x.cps.toList, lowc c = true) ∧ x.length = w) ∧ ρ = [.ow true (.ls r5), .im (.int (m : Int)), .im (.int (w : Int)), .im (.int st), .im (.int lead), .im (.int (ai : Int)), .im (.str (tx cs)), y7, .ow false (.ls (l.map D.str)), y9, .no])
      ⟨[], .no, .no, rfl, .inl rfl, .inl rfl, rfl, by simp, rfl⟩ ?_ ?_
    · rintro i d ρ J hd ⟨l, y7, y9, el, i7, i9, ll, lo, rfl⟩ hJ
      have h7 := i7.nio
      have h9 := i9.nio
      rw [List.getElem?_map] at hd
      obtain ⟨i', hi', rfl⟩ := Option.map_eq_some_iff.mp hd
      have lt : i < m := by
        have := (List.getElem?_eq_some_iff.mp hi').1
        simpa using this
      have ei : i' = i := by
        rw [List.getElem?_range lt] at hi'
        exact (Option.some.inj hi').symm
      subst ei
      have f0 : 0 ≤ (lead + st * (i' : Int)).fmod 26 ∧ (lead + st * (i' : Int)).fmod 26 < 26 := ⟨Int.fmod_nonneg_of_pos _ (by decide), Int.fmod_lt_of_pos _ (by decide)⟩
      have sm1 : Sml st := .of (k := 64) (by omega) (by decide) (by decide)
      have sm2 : Sml (i' : Int) := .of (k := 64) (by omega) (by decide) (by decide)
      have low2 := low_let f0.1 f0.2
      obtain ⟨n1, n2⟩ := name_of (k := ai) low (by omega) low2
      have c1 := cut_to (l := cs) (k := ai) (by omega)
      have c2 := cut_from (l := cs) (k := ai + 1) (by omega)
      rw [show ((ai + 1 : Nat) : Int) = (ai : Int) + 1 from by omega] at c2
      have la := abc_at f0.1 f0.2
      obtain ⟨g, hg⟩ : ∃ g, (lead + st * (i' : Int)).fmod 26 = g := ⟨_, rfl⟩
      rw [hg] at f0 low2 n1 n2 la
      have a1 : addD (.str (tx (cs.take ai))) (.str (tx [(97 + g).toNat])) = some (.im (.str (tx (cs.take ai ++ [(97 + g).toNat])))) := by
        rw [addD_strA (by rw [tx_len, tx_len]; simp; omega), tx_app]
      have a2 : addD (.str (tx (cs.take ai ++ [(97 + g).toNat]))) (.str (tx (cs.drop (ai + 1)))) = some (.im (.str (tx (cs.take ai ++ [(97 + g).toNat] ++ cs.drop (ai + 1))))) := by
        rw [addD_strA (by rw [tx_len, tx_len]; simp; omega), tx_app]
      have la : ixD (.str abc) (.int g) = some (.im (.str (tx [(97 + g).toNat]))) := la
      have slA := fun lo hi => sl_str (x := tx cs) (lo := lo) (hi := hi) (by rw [tx_len]; omega)
      simp [h7, h9, sm1, sm2, hg, slA, c1, c2, letters_ok, la, a1, a2, app_ok, ll, show i' < 1000000 from by omega]
      have hh : ∀ x ∈ l ++ [tx (cs.take ai ++ [(97 + g).toNat] ++ cs.drop (ai + 1))], (∀ c ∈ x.cps.toList, lowc c = true) ∧ x.length = w := fun x hx => by
        rcases List.mem_append.mp hx with z | z
        · exact lo x z
        · rw [List.mem_singleton.mp z]
          exact ⟨n1, by rw [tx_len, n2, lcs]⟩
      have el2 : l ++ [tx (cs.take ai ++ [(97 + g).toNat] ++ cs.drop (ai + 1))] = (List.range (i' + 1)).map (fun j => tx (nmA j)) := by
        rw [List.range_succ, List.map_append, ← el, ← hg]
        rfl
      exact hJ _ ⟨l ++ [tx (cs.take ai ++ [(97 + g).toNat] ++ cs.drop (ai + 1))], .im (.int (i' : Int)), .im (.int g), el2, imm_im, imm_im, by simp [ll], hh, by simp⟩
    · rintro ρ ⟨l, y7, y9, el, i7, i9, ll, lo, rfl⟩
      rw [List.length_map, List.length_range] at el
      have injA : ∀ j j', j < m → j' < m → nmA j = nmA j' → j = j' := fun j j' hj hj' e => by
        have e : cs.take ai ++ [(97 + (lead + st * (j : Int)).fmod 26).toNat] ++ cs.drop (ai + 1) = cs.take ai ++ [(97 + (lead + st * (j' : Int)).fmod 26).toNat] ++ cs.drop (ai + 1) := e
        have e := List.append_cancel_left (List.append_cancel_right e)
        have e : (97 + (lead + st * (j : Int)).fmod 26).toNat = (97 + (lead + st * (j' : Int)).fmod 26).toNat := by simpa using e
        rw [Int.fmod_eq_emod_of_nonneg _ (by decide), Int.fmod_eq_emod_of_nonneg _ (by decide)] at e
        rcases st5 with rfl | rfl | rfl | rfl | rfl <;> omega
      have ndl : ∀ g : List Nat → List Nat, (∀ x y, g x = g y → x = y) → ((List.range m).map fun j => tx (g (nmA j))).Nodup := fun g hg => by
        refine List.nodup_iff_pairwise_ne.mpr ?_
        rw [List.pairwise_map]
        refine (List.nodup_iff_pairwise_ne.mp List.nodup_range).imp_of_mem fun {a b} ha hb hab e => hab ?_
        exact injA a b (List.mem_range.mp ha) (List.mem_range.mp hb) (hg _ _ (tx_inj e))
      have nd1 : l.Nodup := by
        rw [el]
        exact ndl (fun x => x) fun _ _ h => h
      have q1 : Str.ofString "q" = tx [113] := by decide +kernel
      have nd2 : (l.map fun (x : Str) => x ++ Str.ofString "q").Nodup := by
        rw [el, List.map_map, q1]
        have z := ndl (fun x => x ++ [113]) fun _ _ h => List.append_cancel_right h
        have e : ((List.range m).map ((fun x => x ++ tx [113]) ∘ fun j => tx (nmA j))) = (List.range m).map fun j => tx (nmA j ++ [113]) := List.map_congr_left fun j _ => tx_app
        rw [e]
        exact z
      have ll : l.length = m := by simpa using ll
      have ok : ∀ y ∈ l, y.cps.all (· < 0x110000) = true := fun y hy => low_okc (lo y hy).1
      have i1 := in_names (x := "abs") (sok_lit _) ok
      have i2 := in_names (x := "max") (sok_lit _) ok
      have i3 := in_names (x := "min") (sok_lit _) ok
      have lq : (Str.ofString "q").length = 1 := by decide +kernel
      have fin : WP (cLoop [10] (tgName 10) tYesD (dOp2 addD (dVar 10) (dC (.str "q"))) (l.map D.str) [] [.ow true (.ls r5), .im (.int (m : Int)), .im (.int (w : Int)), .im (.int st), .im (.int lead), .im (.int (ai : Int)), .im (.str (tx cs)), y7, .im (.lst (l.map D.str)), y9, .no])
          (fun ys ρ => ys = (l.map fun (x : Str) => D.str (x ++ Str.ofString "q")) ∧ ρ = [.ow true (.ls r5), .im (.int (m : Int)), .im (.int (w : Int)), .im (.int st), .im (.int lead), .im (.int (ai : Int)), .im (.str (tx cs)), y7, .im (.lst (l.map D.str)), y9, .no]) noX := by
        refine wp_cmapG D.str (fun (x : Str) => D.str (x ++ Str.ofString "q")) l rfl rfl (by omega) (fun x hx => ?_) ⟨rfl, rfl⟩
        have a := addD_strA (a := x) (b := "q") (by rw [lq, (lo x hx).2]; omega)
        simp [a, rest]
      have all : ∀ x ∈ l.map fun (x : Str) => x ++ Str.ofString "q", NmOk x := fun x hx => by
        obtain ⟨y, hy, rfl⟩ := List.mem_map.mp hx
        obtain ⟨y1, y2⟩ := lo y hy
        have le : (y ++ Str.ofString "q").length = y.length + 1 := by rw [PySem.Str.length_append, lq]
        refine ⟨fun c hc => ?_, by omega, by omega, ends_q⟩
        have hc : c ∈ (y.cps ++ #[113]).toList := hc
        rw [Array.toList_append, List.mem_append] at hc
        rcases hc with hc | hc
        · exact y1 c hc
        · have : c = 113 := by simpa using hc
          subst this
          decide
      have em : (l.map fun (x : Str) => D.str (x ++ Str.ofString "q")) = (l.map fun (x : Str) => x ++ Str.ofString "q").map D.str := by simp
      have kk := k (l.map fun (x : Str) => x ++ Str.ofString "q") r5 (by simp [ll]) all nd2 hr5
      rw [← em] at kk
      by_cases b1 : Str.ofString "abs" ∈ l
      · simp [i1, b1]
        refine Wp.mono fin (fun ys ρ ⟨h1, h2⟩ => ?_) (fun _ _ z => z.elim)
        subst h1 h2
        simp
        exact kk
      · by_cases b2 : Str.ofString "max" ∈ l
        · simp [i1, b1, i2, b2]
          refine Wp.mono fin (fun ys ρ ⟨h1, h2⟩ => ?_) (fun _ _ z => z.elim)
          subst h1 h2
          simp
          exact kk
        · by_cases b3 : Str.ofString "min" ∈ l
          · simp [i1, b1, i2, b2, i3, b3]
            refine Wp.mono fin (fun ys ρ ⟨h1, h2⟩ => ?_) (fun _ _ z => z.elim)
            subst h1 h2
            simp
            exact kk
          · simp [i1, b1, i2, b2, i3, b3]
            refine k l r5 (by omega) (fun x hx => ?_) nd1 hr5
            obtain ⟨x1, x2⟩ := lo x hx
            exact ⟨x1, by omega, by omega, fun z => b1 (z ▸ hx), fun z => b2 (z ▸ hx), fun z => b3 (z ▸ hx)⟩
end Kx

/- part -/
set_option Elab.async false
set_option linter.all false
set_option maxRecDepth 100000
set_option maxHeartbeats 8000000
namespace Kx
open PySem DL PyProof.Rows
structure Fol (T : List (Str × Ex)) (P : Str → Prop) (rk : Str → Nat) : Prop where
  nd : (T.map (·.1)).Nodup
  mem : ∀ f, P f → f ∈ T.map (·.1)
  ok : ∀ f, P f → ExOk P (defOf T f)
  tx : ∀ f, P f → f.cps.all (· < 0x110000) = true
  eh : ∀ f, P f → exH (defOf T f) ≤ 3
  rk : ∀ f, P f → ∀ g ∈ exC (defOf T f), rk g < rk f
theorem exC_seven {e : Ex} (h : exH e ≤ 3) : (exC e).length ≤ 7 := by
  have h1 := exC_len e
  have h2 : 2 ^ exH e ≤ 2 ^ 3 := Nat.pow_le_pow_right (by decide) h
  omega
section
variable {T : List (Str × Ex)} {P : Str → Prop} {rk : Str → Nat} (τ : Fol T P rk)
include τ
theorem follow_wp : ∀ (n : Nat) {f : Str} {path fin : List Str} {Q : RV → SE → Prop} {E : Exc → SE → Prop}, P f → rk f < n → (∀ g ∈ path, P g ∧ rk f < rk g) → path.length + rk f ≤ 100 → (∀ g ∈ fin, g.cps.all (· < 0x110000) = true) → fin.length + 8 ^ (rk f + 1) ≤ 100000 →
    (∀ fin' : List Str, (∀ g ∈ fin', g.cps.all (· < 0x110000) = true) → fin'.length ≤ fin.length + 8 ^ (rk f + 1) → Q (.im .non) [.im (.str f), .im (tabD T), .im (.lst (path.map D.str)), .ow true (.ls (fin'.map D.str))]) → WP (m_follow n [.im (.str f), .im (tabD T), .im (.lst (path.map D.str)), .ow true (.ls (fin.map D.str))]) Q E
  | 0, f, path, fin, Q, E, _, h, _, _, _, _, _ => by omega
  | n + 1, f, path, fin, Q, E, pf, h, hp, pl, hfin, fl, K => by
    have es : m_follow (n + 1) = mFn n_follow.length (b_follow (m_follow n)) := rfl
    have i1 := in_names (τ.tx f pf) (l := path) fun y hy => τ.tx y (hp y hy).1
    have np : f ∉ path := fun z => by have := (hp f z).2; omega
    have i2 := in_names (τ.tx f pf) (l := fin) hfin
    have tg := tab_get τ.nd (τ.mem f pf)
    have xi : xinD true (.str f) (tabD T) = some (.im (.bl false)) := by
      have m1 : (T.map fun p => D.str p.1) = (T.map (·.1)).map D.str := by rw [List.map_map]; rfl
      have z : xinD true (.str f) (tabD T) = if kyB (.str f) (T.map fun p => D.str p.1) = true then some (.im (.bl (true != dHas (.str f) (T.map fun p => D.str p.1)))) else none := rfl
      rw [z, m1, if_pos (keyS.ky (x := f)), keyS.has, decide_eq_true (τ.mem f pf)]
      rfl
    have p8 : 8 ^ (rk f + 1) = 8 * 8 ^ rk f := by rw [Nat.pow_succ]; omega
    have p1 : 1 ≤ 8 ^ rk f := Nat.one_le_pow _ _ (by decide)
    rw [es]
    refine wp_fn ?_
    by_cases c : f ∈ fin
    · simp [b_follow, i1, np, i2, c]
      exact K fin hfin (by omega)
    · simp [b_follow, i1, np, i2, c, xi, tg]
      refine callsin_wp 8 (defOf T f) (by have := τ.eh f pf; omega) (by decide) ?_
      have l7 := exC_seven (τ.eh f pf)
      have ap1 : addD (.lst (path.map D.str)) (.lst [.str f]) = some (.ow (.ls ((path ++ [f]).map D.str))) := by
        rw [addD_lstA (by rw [List.length_map]; show _ + 1 ≤ _; omega), List.map_append]
        rfl
      simp
      refine wp_floopJ (fun i ρ => ∃ (fi : List Str) (x4 : SV), (∀ g ∈ fi, g.cps.all (· < 0x110000) = true) ∧ fi.length ≤ fin.length + i * 8 ^ rk f ∧ i ≤ 7 ∧ Nio x4 ∧ ρ = [.im (.str f), .im (tabD T), .im (.lst (path.map D.str)), .ow true (.ls (fi.map D.str)), x4]) ⟨fin, .no, hfin, by omega, by omega, nio_no, rfl⟩ ?_ ?_
      · rintro i e ρ J he ⟨fi, x4, h1, h2, hi, n4, rfl⟩ hJ
        rw [List.getElem?_map] at he
        obtain ⟨g, hg, rfl⟩ := Option.map_eq_some_iff.mp he
        have mg := List.mem_of_getElem? hg
        have lt := (List.getElem?_eq_some_iff.mp hg).1
        have pg := exC_mem (τ.ok f pf) g mg
        have rg := τ.rk f pf g mg
        have pw : 8 ^ (rk g + 1) ≤ 8 ^ rk f := Nat.pow_le_pow_right (by decide) (by omega)
        have i7 : i * 8 ^ rk f + 8 ^ rk f ≤ 7 * 8 ^ rk f := by
          have := Nat.mul_le_mul_right (8 ^ rk f) (show i + 1 ≤ 7 by omega)
          rw [Nat.add_mul, Nat.one_mul] at this
          exact this
        simp [-List.map_append, n4, ap1]
        refine follow_wp n (f := g) (path := path ++ [f]) (fin := fi) pg (by omega) (fun y hy => ?_) (by rw [List.length_append]; show path.length + 1 + rk g ≤ 100; omega) h1 (by omega) fun fin' h3 h4 => ?_
        · rcases List.mem_append.mp hy with z | z
          · have := hp y z
            exact ⟨this.1, by omega⟩
          · rw [List.mem_singleton.mp z]
            exact ⟨pf, rg⟩
        · simp
          refine hJ _ ⟨fin', _, h3, ?_, by omega, nio_im, rfl⟩
          rw [Nat.add_mul, Nat.one_mul]
          omega
      · rintro ρ ⟨fi, x4, h1, h2, hi, n4, rfl⟩
        rw [List.length_map] at h2
        have ap : gAppend (fi.map D.str) [.str f] = some (.non, fi.map D.str ++ [.str f]) := app_ok (by
          rw [List.length_map]
          have := Nat.mul_le_mul_right (8 ^ rk f) l7
          omega)
        simp [ap]
        have kk := K (fi ++ [f]) (fun y hy => ?_) ?_
        · rw [List.map_append] at kk
          exact kk
        · rcases List.mem_append.mp hy with z | z
          · exact h1 y z
          · rw [List.mem_singleton.mp z]
            exact τ.tx f pf
        · rw [List.length_append]
          show fi.length + 1 ≤ _
          have := Nat.mul_le_mul_right (8 ^ rk f) l7
          omega
end
end Kx

/- part -/
set_option Elab.async false
set_option linter.all false
set_option maxRecDepth 100000
set_option maxHeartbeats 8000000
namespace Kx
open PySem DL PyProof.Rows
def prE (p : Str × Ex) : D := .tup [.str p.1, exD p.2]
section
variable {T : List (Str × Ex)} {P : Str → Prop} {rk : Str → Nat} (τ : Fol T P rk)
include τ
theorem checkt_wp {e : Ex} {dd : D} {Q : RV → SE → Prop} {E : Exc → SE → Prop} (hd : dd = .lst (T.map prE) ∨ dd = .tup (T.map prE)) (tl : T.length ≤ 100) (ok : ExOk P e) (eh : exH e ≤ 4) (r4 : ∀ f, P f → rk f ≤ 3) (K : ∀ r : RV, (r = .im (tabD T) ∨ r = .ow (.xt .dct (T.map fun p => D.str p.1) (T.map fun p => exD p.2))) → Q r [.im (exD e), .im dd]) : WP (m_checked_table [.im (exD e), .im dd]) Q E := by
  refine wp_fn ?_
  have main : ∀ i, i < T.length → ∀ c, T[i]? = some c → kyB (.str c.1) ((T.take i).map fun p => D.str p.1) = true ∧ putKs (.str c.1) ((T.take i).map fun p => D.str p.1) = (T.take (i + 1)).map (fun p => D.str p.1) ∧ putVs (.str c.1) ((T.take i).map fun p => D.str p.1) (exD c.2) ((T.take i).map fun p => exD p.2) = (T.take (i + 1)).map fun p => exD p.2 := fun i hi c hc => by
    have m1 : ((T.take i).map fun p => D.str p.1) = ((T.take i).map (·.1)).map D.str := by rw [List.map_map]; rfl
    have tk : T.take (i + 1) = T.take i ++ [c] := by
      rw [List.take_add_one, hc]
      rfl
    have nin : c.1 ∉ (T.take i).map (·.1) := fun z => by
      have nd := τ.nd
      have e2 : T = T.take (i + 1) ++ T.drop (i + 1) := (List.take_append_drop _ _).symm
      rw [e2, List.map_append, List.nodup_append, tk, List.map_append, List.nodup_append] at nd
      exact nd.1.2.2 c.1 z c.1 (by simp) rfl
    have pk := keyS.putK (l := (T.take i).map (·.1)) (x := c.1)
    rw [if_neg nin] at pk
    have pv := keyS.putV (l := (T.take i).map (·.1)) (x := c.1) (v := exD c.2) nin (vs := (T.take i).map fun p => exD p.2)
    refine ⟨by rw [m1]; exact keyS.ky, ?_, ?_⟩
    · rw [m1, pk, tk, List.map_append, List.map_append, List.map_map]
      rfl
    · rw [m1, pv, tk, List.map_append]
      rfl
  have ek : exC e = exC e := rfl
  have el : (exC e).length ≤ 15 := by
    have h1 := exC_len e
    have h2 : 2 ^ exH e ≤ 2 ^ 4 := Nat.pow_le_pow_right (by decide) eh
    omega
  have nl : noOw [.im (exD e), .im dd, .no, .no, .no, .no] [3, 4] = true := rfl
  have fin : ∀ dd : D, (dd = .lst (T.map prE) ∨ dd = .tup (T.map prE)) → WP (floop (tgName 3) (sExpr (dCall 4 [] (m_follow 8) (aCons (dVar 3) (aCons (dVar 2) (aCons (dLst aNil) (aIo 5 aNil)))))) ((exC e).map D.str) [.im (exD e), .im dd, .ow false (.xt .dct (T.map fun p => D.str p.1) (T.map fun p => exD p.2)), .no, .no, .ow false (.ls [])])
      (fun f ρ => f = .nx ∧ ∃ x2 x3 fi, (x2 = .ow false (.xt .dct (T.map fun p => D.str p.1) (T.map fun p => exD p.2)) ∨ x2 = .im (tabD T)) ∧ Nio x3 ∧ ρ = [.im (exD e), .im dd, x2, x3, .no, .ow false (.ls fi)]) noX := fun dd _ => by
    refine wp_floopJ (fun i ρ => ∃ (fi : List Str) (x2 x3 : SV), (x2 = .ow false (.xt .dct (T.map fun p => D.str p.1) (T.map fun p => exD p.2)) ∨ x2 = .im (tabD T)) ∧ Nio x3 ∧ (∀ g ∈ fi, g.cps.all (· < 0x110000) = true) ∧ fi.length ≤ i * 8 ^ 4 ∧ i ≤ 15 ∧ ρ = [.im (exD e), .im dd, x2, x3, .no, .ow false (.ls (fi.map D.str))]) ⟨[], _, .no, .inl rfl, nio_no, (fun g hg => by cases hg), by simp, by omega, rfl⟩ ?_ ?_
    · rintro i x ρ J he ⟨fi, x2, x3, h2, n3, h1, hl, hi, rfl⟩ hJ
      rw [List.getElem?_map] at he
      obtain ⟨g, hg, rfl⟩ := Option.map_eq_some_iff.mp he
      have mg := List.mem_of_getElem? hg
      have lt := (List.getElem?_eq_some_iff.mp hg).1
      have pg := exC_mem ok g mg
      have rg := r4 g pg
      have pw : 8 ^ (rk g + 1) ≤ 8 ^ 4 := Nat.pow_le_pow_right (by decide) (by omega)
      have i7 : i * 8 ^ 4 ≤ 15 * 8 ^ 4 := Nat.mul_le_mul_right _ (by omega)
      have go : ∀ fin' : List Str, (∀ g ∈ fin', g.cps.all (· < 0x110000) = true) → fin'.length ≤ fi.length + 8 ^ (rk g + 1) → J [.im (exD e), .im dd, .im (tabD T), .im (.str g), .no, .ow false (.ls (fin'.map D.str))] := fun fin' q1 q2 => hJ _ ⟨fin', _, _, .inr rfl, nio_im, q1, by rw [Nat.add_mul, Nat.one_mul]; omega, by omega, rfl⟩
      rcases h2 with rfl | rfl
      · simp [n3]
        refine follow_wp τ 8 (f := g) (path := []) (fin := fi) pg (by omega) (fun y hy => by cases hy) (by show 0 + rk g ≤ 100; omega) h1 (by omega) fun fin' h3 h4 => ?_
        simp
        exact go fin' h3 h4
      · simp [n3]
        refine follow_wp τ 8 (f := g) (path := []) (fin := fi) pg (by omega) (fun y hy => by cases hy) (by show 0 + rk g ≤ 100; omega) h1 (by omega) fun fin' h3 h4 => ?_
        simp
        exact go fin' h3 h4
    · rintro ρ ⟨fi, x2, x3, h2, n3, h1, hl, hi, rfl⟩
      exact ⟨rfl, x2, x3, fi.map D.str, h2, n3, rfl⟩
  rcases hd with rfl | rfl
  · simp [b_checked_table]
    refine wp_cRun (fun i a ρ => i ≤ T.length ∧ a = ((T.take i).map (fun p => D.str p.1), (T.take i).map fun p => exD p.2) ∧ ρ = [.im (exD e), .im (.lst (T.map prE)), .no, .no, .no, .no]) ⟨by omega, rfl, rfl⟩ (fun i a ρ hI => by rw [hI.2.2]; rfl) ?_ ?_
    · rintro i x a ρ J hx ⟨hi, rfl, rfl⟩ hJ
      rw [List.getElem?_map] at hx
      obtain ⟨c, hc, rfl⟩ := Option.map_eq_some_iff.mp hx
      have lt := (List.getElem?_eq_some_iff.mp hc).1
      obtain ⟨k1, k2, k3⟩ := main i lt c hc
      have kl : kyB (.str c.1) ((T.take i).map fun p => D.str p.1) = true ∧ ((T.take i).map fun p => D.str p.1).length < 1000000 := ⟨k1, by rw [List.length_map, List.length_take]; omega⟩
      have em : ∀ ρ, emDR (.str c.1) (exD c.2) ((T.take i).map (fun p => D.str p.1), (T.take i).map fun p => exD p.2) ρ = .ok ((T.take (i + 1)).map (fun p => D.str p.1), (T.take (i + 1)).map fun p => exD p.2) ρ := fun ρ => by
        unfold emDR
        rw [if_pos kl, k2, k3]
      simp [-List.map_take, prE, em, rest]
      exact hJ _ _ ⟨by omega, rfl, rfl⟩
    · rintro a ρ ⟨hi, rfl, rfl⟩
      rw [List.length_map, List.take_length]
      simp
      refine callsin_wp 8 e (by omega) (by decide) ?_
      simp
      have et : D.xt .dct (T.map fun p => D.str p.1) (T.map fun p => exD p.2) = tabD T := rfl
      refine Wp.mono (fin _ (.inl rfl)) ?_ (fun _ _ h => h.elim)
      rintro f ρ ⟨rfl, x2, x3, fi, h2, n3, rfl⟩
      rcases h2 with rfl | rfl
      · simp
        exact K _ (.inr rfl)
      · simp
        exact K _ (.inl rfl)
  · simp [b_checked_table]
    refine wp_cRun (fun i a ρ => i ≤ T.length ∧ a = ((T.take i).map (fun p => D.str p.1), (T.take i).map fun p => exD p.2) ∧ ρ = [.im (exD e), .im (.tup (T.map prE)), .no, .no, .no, .no]) ⟨by omega, rfl, rfl⟩ (fun i a ρ hI => by rw [hI.2.2]; rfl) ?_ ?_
    · rintro i x a ρ J hx ⟨hi, rfl, rfl⟩ hJ
      rw [List.getElem?_map] at hx
      obtain ⟨c, hc, rfl⟩ := Option.map_eq_some_iff.mp hx
      have lt := (List.getElem?_eq_some_iff.mp hc).1
      obtain ⟨k1, k2, k3⟩ := main i lt c hc
      have kl : kyB (.str c.1) ((T.take i).map fun p => D.str p.1) = true ∧ ((T.take i).map fun p => D.str p.1).length < 1000000 := ⟨k1, by rw [List.length_map, List.length_take]; omega⟩
      have em : ∀ ρ, emDR (.str c.1) (exD c.2) ((T.take i).map (fun p => D.str p.1), (T.take i).map fun p => exD p.2) ρ = .ok ((T.take (i + 1)).map (fun p => D.str p.1), (T.take (i + 1)).map fun p => exD p.2) ρ := fun ρ => by
        unfold emDR
        rw [if_pos kl, k2, k3]
      simp [-List.map_take, prE, em, rest]
      exact hJ _ _ ⟨by omega, rfl, rfl⟩
    · rintro a ρ ⟨hi, rfl, rfl⟩
      rw [List.length_map, List.take_length]
      simp
      refine callsin_wp 8 e (by omega) (by decide) ?_
      simp
      have et : D.xt .dct (T.map fun p => D.str p.1) (T.map fun p => exD p.2) = tabD T := rfl
      refine Wp.mono (fin _ (.inr rfl)) ?_ (fun _ _ h => h.elim)
      rintro f ρ ⟨rfl, x2, x3, fi, h2, n3, rfl⟩
      rcases h2 with rfl | rfl
      · simp
        exact K _ (.inr rfl)
      · simp
        exact K _ (.inl rfl)
end
section
variable {T : List (Str × Ex)} {P : Str → Prop} {rk : Str → Nat} {φ : Str → Rat → Rat} {wt hd : Str → Nat}
theorem eval_wp (τ : Fol T P rk) (σ : Tab T φ wt hd P) {e : Ex} {dd : D} {v : Rat} {d s a : Nat} {Q : RV → SE → Prop} {E : Exc → SE → Prop} (hdd : dd = .lst (T.map prE) ∨ dd = .tup (T.map prE)) (tl : T.length ≤ 100) (ok : ExOk P e) (eh : exH e ≤ 4) (r4 : ∀ f, P f → rk f ≤ 3)
    (h12 : hE hd e ≤ 12) (hv : In d s v) (d0 : 0 < d) (hd2 : d < 2 ^ a) (hs : s < 2 ^ a) (hw : a + wE wt e + 1 ≤ 4400) (K : Q (.im (qD (evx φ e v))) [.im (exD e), .im (qD v), .im dd]) : WP (m_evaluate [.im (exD e), .im (qD v), .im dd]) Q E := by
  refine wp_fn ?_
  simp [b_evaluate]
  refine checkt_wp τ hdd tl ok eh r4 fun r hr => ?_
  rcases hr with rfl | rfl
  · simp
    have z := valof_wp σ 12 (e := e) (v := v) (d := d) (s := s) (a := a) (Ks := []) (Q := fun x svs => x = .im (qD (evx φ e v)) ∧ ∃ Ks', svs = [.im (exD e), .im (qD v), .im (tabD T), .ow true (knD φ Ks')]) (E := noX) h12 ok hv d0 hd2 hs hw (by decide) fun Ks' _ => ⟨rfl, Ks', rfl⟩
    refine Wp.mono z ?_ (fun _ _ h => h.elim)
    rintro x svs ⟨rfl, Ks', rfl⟩
    simp [knD]
    exact K
  · simp
    have et : D.xt .dct (T.map fun p => D.str p.1) (T.map fun p => exD p.2) = tabD T := rfl
    rw [et]
    have z := valof_wp σ 12 (e := e) (v := v) (d := d) (s := s) (a := a) (Ks := []) (Q := fun x svs => x = .im (qD (evx φ e v)) ∧ ∃ Ks', svs = [.im (exD e), .im (qD v), .im (tabD T), .ow true (knD φ Ks')]) (E := noX) h12 ok hv d0 hd2 hs hw (by decide) fun Ks' _ => ⟨rfl, Ks', rfl⟩
    refine Wp.mono z ?_ (fun _ _ h => h.elim)
    rintro x svs ⟨rfl, Ks', rfl⟩
    simp [knD]
    exact K
end
end Kx

/- part -/
set_option Elab.async false
set_option linter.all false
set_option maxRecDepth 100000
set_option maxHeartbeats 8000000
namespace Kx
open PySem DL PyProof.Rows
theorem evx_congr {φ ψ : Str → Rat → Rat} {P : Str → Prop} (h : ∀ f, P f → ∀ v, φ f v = ψ f v) {v : Rat} : ∀ e : Ex, ExOk P e → evx φ e v = evx ψ e v
  | .x, _ => rfl
  | .num _, _ => rfl
  | .ab e, ok => congrArg absQ (evx_congr h e ok)
  | .mul q e, ok => congrArg (q * ·) (evx_congr h e ok.2)
  | .call f e, ok => by
    show φ f (evx φ e v) = ψ f (evx ψ e v)
    rw [evx_congr h e ok.2, h f ok.1]
  | .bin o a b, ok => by
    show binQ o (evx φ a v) (evx φ b v) = binQ o (evx ψ a v) (evx ψ b v)
    rw [evx_congr h a ok.1, evx_congr h b ok.2]
def phiL : List (Str × Ex) → Str → Rat → Rat
  | [], _, v => v
  | p :: T, f, v => if f = p.1 then evx (phiL T) p.2 v else phiL T f v
def GoodT (wt hd : Str → Nat) : List (Str × Ex) → Prop
  | [] => True
  | p :: T => p.1 ∉ T.map (·.1) ∧ ExOk (· ∈ T.map (·.1)) p.2 ∧ wE wt p.2 ≤ wt p.1 ∧ hE hd p.2 ≤ hd p.1 ∧ GoodT wt hd T
theorem defOf_hd {p : Str × Ex} {T : List (Str × Ex)} : defOf (p :: T) p.1 = p.2 := by
  unfold defOf
  rw [List.find?_cons, decide_eq_true rfl]
  rfl
theorem defOf_tl {p : Str × Ex} {T : List (Str × Ex)} {f : Str} (h : p.1 ≠ f) : defOf (p :: T) f = defOf T f := by
  unfold defOf
  rw [List.find?_cons, decide_eq_false h]
theorem defOf_app {S : List (Str × Ex)} {f : Str} : ∀ {T : List (Str × Ex)}, f ∈ T.map (·.1) → defOf (T ++ S) f = defOf T f
  | [], h => by cases h
  | p :: T, h => by
    show defOf (p :: (T ++ S)) f = _
    by_cases c : p.1 = f
    · subst c
      rw [defOf_hd, defOf_hd]
    · rw [defOf_tl c, defOf_tl c]
      refine defOf_app ?_
      rw [List.map_cons] at h
      rcases List.mem_cons.mp h with z | z
      · exact (c z.symm).elim
      · exact z
theorem goodT_all {wt hd : Str → Nat} : ∀ {T : List (Str × Ex)}, GoodT wt hd T → (T.map (·.1)).Nodup ∧ (∀ f ∈ T.map (·.1), ExOk (· ∈ T.map (·.1)) (defOf T f) ∧ hE hd (defOf T f) ≤ hd f ∧ wE wt (defOf T f) ≤ wt f ∧ ∀ v, phiL T f v = evx (phiL T) (defOf T f) v) ∧ PhOkQ (phiL T) wt (· ∈ T.map (·.1))
  | [], _ => ⟨List.nodup_nil, fun f h => (by cases h), fun f h => (by cases h)⟩
  | p :: T, ⟨g1, g2, g3, g4, g5⟩ => by
    obtain ⟨i1, i2, i3⟩ := goodT_all g5
    have eq : ∀ f, f ∈ T.map (·.1) → ∀ v, phiL (p :: T) f v = phiL T f v := fun f hf v => by
      have ne : f ≠ p.1 := fun z => g1 (by rw [← z]; exact hf)
      exact if_neg ne
    have hh : ∀ v, phiL (p :: T) p.1 v = evx (phiL T) p.2 v := fun v => if_pos rfl
    refine ⟨by rw [List.map_cons, List.nodup_cons]; exact ⟨g1, i1⟩, fun f hf => ?_, fun f hf d s v hv => ?_⟩
    · rw [List.map_cons] at hf
      by_cases c : p.1 = f
      · subst c
        rw [defOf_hd]
        refine ⟨ExOk.mono (fun x hx => List.mem_cons_of_mem _ hx) g2, g4, g3, fun v => ?_⟩
        rw [hh]
        exact (evx_congr eq p.2 g2).symm
      · have hf : f ∈ T.map (·.1) := by
          rcases List.mem_cons.mp hf with z | z
          · exact (c z.symm).elim
          · exact z
        rw [defOf_tl c]
        obtain ⟨k1, k2, k3, k4⟩ := i2 f hf
        refine ⟨ExOk.mono (fun x hx => List.mem_cons_of_mem _ hx) k1, k2, k3, fun v => ?_⟩
        rw [eq f hf, k4]
        exact (evx_congr eq _ k1).symm
    · rw [List.map_cons] at hf
      by_cases c : p.1 = f
      · subst c
        rw [hh]
        exact (evx_bd i3 hv p.2 g2).mono g3
      · have hf : f ∈ T.map (·.1) := by
          rcases List.mem_cons.mp hf with z | z
          · exact (c z.symm).elim
          · exact z
        rw [eq f hf]
        exact i3 f hf d s v hv
theorem goodT_tab {wt hd : Str → Nat} {T S : List (Str × Ex)} (g : GoodT wt hd T) (nd : ((T ++ S).map (·.1)).Nodup) : Tab (T ++ S) (phiL T) wt hd (· ∈ T.map (·.1)) := by
  obtain ⟨i1, i2, i3⟩ := goodT_all g
  refine ⟨nd, fun f hf => ?_, fun f hf => ?_, fun f hf => ?_, fun f hf => ?_, fun f hf => ?_, i3⟩
  · rw [List.map_append]
    exact List.mem_append_left _ hf
  · rw [defOf_app hf]
    exact (i2 f hf).1
  · rw [defOf_app hf]
    exact (i2 f hf).2.1
  · rw [defOf_app hf]
    exact (i2 f hf).2.2.1
  · rw [defOf_app hf]
    exact (i2 f hf).2.2.2
def bw (W : Nat) : Nat → Nat
  | 0 => 0
  | 1 => 20
  | h + 1 => max (max (2 * bw W h + 1) (bw W h + W + 1)) (bw W h + 20)
theorem bw_up {W h : Nat} : bw W h ≤ bw W (h + 1) := by
  cases h with
  | zero => exact Nat.zero_le _
  | succ h =>
    show bw W (h + 1) ≤ max (max (2 * bw W (h + 1) + 1) (bw W (h + 1) + W + 1)) (bw W (h + 1) + 20)
    omega
theorem bw_mono {W h k : Nat} (hk : h ≤ k) : bw W h ≤ bw W k := by
  induction hk with
  | refl => exact Nat.le_refl _
  | step _ ih => exact Nat.le_trans ih bw_up
theorem bw_step {W h : Nat} (h1 : 1 ≤ h) : bw W (h + 1) = max (max (2 * bw W h + 1) (bw W h + W + 1)) (bw W h + 20) := by
  cases h with
  | zero => omega
  | succ h => rfl
theorem wE_le {wt : Str → Nat} {W : Nat} {P : Str → Prop} (hW : ∀ f, P f → wt f ≤ W) : ∀ e : Ex, ExOk P e → wE wt e ≤ bw W (exH e)
  | .x, _ => Nat.zero_le _
  | .num _, _ => Nat.le_refl _
  | .ab e, h => Nat.le_trans (wE_le hW e h) bw_up
  | .mul q e, h => by
    have ih := wE_le hW e h.2
    show wE wt e + 20 ≤ bw W (exH e + 1)
    rw [bw_step (exH_pos e)]
    omega
  | .call f e, h => by
    have ih := wE_le hW e h.2
    have := hW f h.1
    show wE wt e + wt f + 1 ≤ bw W (exH e + 1)
    rw [bw_step (exH_pos e)]
    omega
  | .bin o a b, h => by
    have i1 := Nat.le_trans (wE_le hW a h.1) (bw_mono (W := W) (Nat.le_max_left (exH a) (exH b)))
    have i2 := Nat.le_trans (wE_le hW b h.2) (bw_mono (W := W) (Nat.le_max_right (exH a) (exH b)))
    have := exH_pos a
    show wE wt a + wE wt b + 1 ≤ bw W (max (exH a) (exH b) + 1)
    rw [bw_step (by omega)]
    omega
theorem hE_le {hd : Str → Nat} {H : Nat} {P : Str → Prop} (hH : ∀ f, P f → hd f ≤ H) (H1 : 1 ≤ H) : ∀ e : Ex, ExOk P e → hE hd e + 1 ≤ exH e + H
  | .x, _ => by show 1 + 1 ≤ 1 + H; omega
  | .num _, _ => by show 1 + 1 ≤ 1 + H; omega
  | .ab e, h => by
    have := hE_le hH H1 e h
    show hE hd e + 1 + 1 ≤ exH e + 1 + H
    omega
  | .mul q e, h => by
    have := hE_le hH H1 e h.2
    show hE hd e + 1 + 1 ≤ exH e + 1 + H
    omega
  | .call f e, h => by
    have := hE_le hH H1 e h.2
    have := hH f h.1
    have := exH_pos e
    show max (hE hd e) (hd f) + 1 + 1 ≤ exH e + 1 + H
    omega
  | .bin o a b, h => by
    have := hE_le hH H1 a h.1
    have := hE_le hH H1 b h.2
    show max (hE hd a) (hE hd b) + 1 + 1 ≤ max (exH a) (exH b) + 1 + H
    omega
end Kx

/- part -/
set_option Elab.async false
set_option linter.all false
set_option maxRecDepth 100000
set_option maxHeartbeats 8000000
namespace Kx
open PySem DL PyProof.Rows
theorem F6.inn {v : Rat} (h : F6 v) : In v.den (2 ^ 20 + 1) v ∧ 0 < v.den ∧ v.den < 2 ^ 21 ∧ 2 ^ 20 + 1 < 2 ^ 21 := by
  refine ⟨⟨⟨v.num, rat_den_num v⟩, ?_⟩, v.den_pos, by have := h.2; omega, by decide⟩
  have l := h.le
  rw [Rat.natCast_add]
  have o1 : ((1 : Nat) : Rat) = 1 := rfl
  rw [o1]
  generalize ((2 ^ 20 : Nat) : Rat) = x at *
  grind
section
variable {r : List D} {Q : RV → SE → Prop} {E : Exc → SE → Prop}
theorem anyf_wp (hr : RngOk r) (k : ∀ q r', F6 q → RngOk r' → Q (.im (qD q)) [.ow true (.ls r'), .im (.int 9)]) : WP (m__law_any_fraction [.ow true (.ls r), .im (.int 9)]) Q E := by
  refine wp_fn ?_
  have s2 : Sml 2 := by unfold Sml; decide +kernel
  have s9 : Sml 9 := by unfold Sml; decide +kernel
  simp [b__law_any_fraction, s2, s9]
  refine draw_wp hr (by omega) (by omega) fun k1 r1 a1 a2 hr1 => ?_
  simp
  refine draw_wp hr1 (by omega) (by omega) fun k2 r2 b1 b2 hr2 => ?_
  simp [low_rat (a := k1 - 9) (b := 1 + k2) (by omega) (by omega)]
  exact k _ r2 (by simpa using rat_six (a := k1 - 9) (b := 1 + k2) (by omega) (by omega) (by omega)) hr2
def DefsOk (ns : List Str) (T : List (Str × Ex)) : Prop := ∀ (i : Nat) (p : Str × Ex), T[i]? = some p → some p.1 = ns[i]? ∧ ExOk (· ∈ ns.drop (i + 1)) p.2 ∧ exH p.2 ≤ 3
theorem ldefs_wp {ns : List Str} (hr : RngOk r) (hn : ∀ x ∈ ns, x.cps.all (· < 0x110000) = true) (hl : ns.length ≤ 100)
    (k : ∀ T r', T.length = ns.length → DefsOk ns T → RngOk r' → Q (.ow (.ls (T.map prE))) [.ow true (.ls r'), .im (.lst (ns.map D.str))]) : WP (m__law_definitions [.ow true (.ls r), .im (.lst (ns.map D.str))]) Q E := by
  refine wp_fn ?_
  have gn : rngOk (ns.length : Int) = true := decide_eq_true (by omega)
  simp [b__law_definitions, gn]
  refine wp_floopJ (fun i ρ => ∃ (T : List (Str × Ex)) (r' : List D) (x3 : SV), T.length = i ∧ DefsOk ns T ∧ RngOk r' ∧ Nio x3 ∧ ρ = [.ow true (.ls r'), .im (.lst (ns.map D.str)), .ow false (.ls (T.map prE)), x3]) ⟨[], r, .no, rfl, (fun i p h => by simp at h), hr, nio_no, rfl⟩ ?_ ?_
  · rintro i x ρ J he ⟨T, r', x3, tl, ok, hr', n3, rfl⟩ hJ
    rw [List.getElem?_map] at he
    obtain ⟨j, hj, rfl⟩ := Option.map_eq_some_iff.mp he
    obtain ⟨lt, ej⟩ := List.getElem?_eq_some_iff.mp hj
    rw [List.length_range] at lt
    rw [List.getElem_range] at ej
    subst ej
    have at1 : L2.atI (ns.map D.str) (i : Int) = some (.str ns[i]) := by
      refine L2.atI_nat ?_
      rw [List.getElem?_map, List.getElem?_eq_getElem lt]
      rfl
    have cut : ∀ xs : List D, cutL xs (some ((i : Int) + 1)) none = xs.drop (i + 1) := fun xs => by
      rw [cutL_from (by omega)]
      congr 1
    have ap : ∀ d, gAppend (T.map prE) [d] = some (.non, T.map prE ++ [d]) := fun d => app_ok (by rw [List.length_map]; omega)
    have md : (ns.map D.str).drop (i + 1) = (ns.drop (i + 1)).map D.str := List.map_drop.symm
    simp [-List.map_drop, n3, at1, cut, md]
    refine expr_wp (ns := ns.drop (i + 1)) (fun x hx => hn x (List.mem_of_mem_drop hx)) (by rw [List.length_drop]; omega) 8 hr' (by omega) (by omega) (by omega) fun e r2 eo eh hr2 => ?_
    simp [ap]
    have kk := hJ [.ow true (.ls r2), .im (.lst (ns.map D.str)), .ow false (.ls ((T ++ [(ns[i], e)]).map prE)), .im (.int (i : Int))] ⟨T ++ [(ns[i], e)], r2, _, by rw [List.length_append, tl]; rfl, ?_, hr2, nio_im, rfl⟩
    · rw [List.map_append] at kk
      exact kk
    · intro j p hp
      rcases getE_app hp with hp | ⟨rfl, rfl⟩
      · exact ok j p hp
      · rw [tl]
        exact ⟨(List.getElem?_eq_getElem lt).symm, eo, by show exH e ≤ 3; omega⟩
  · rintro ρ ⟨T, r', x3, tl, ok, hr', n3, rfl⟩
    simp
    exact k T r' (by simpa using tl) ok hr'
end
end Kx

/- part -/
set_option Elab.async false
set_option linter.all false
set_option maxRecDepth 100000
set_option maxHeartbeats 8000000
namespace Kx
open PySem DL PyProof.Rows
section
variable {n0 n1 n2 n3 n4 : Str} {e0 e1 e2 e3 : Ex}
abbrev T4 (n0 n1 n2 n3 : Str) (e0 e1 e2 e3 : Ex) : List (Str × Ex) := [(n0, e0), (n1, e1), (n2, e2), (n3, e3)]
theorem four (nd : [n0, n1, n2, n3, n4].Nodup) (low : ∀ x ∈ [n0, n1, n2, n3, n4], x.cps.all (· < 0x110000) = true) (o0 : ExOk (· ∈ [n1, n2, n3]) e0) (o1 : ExOk (· ∈ [n2, n3]) e1) (o2 : ExOk (· ∈ [n3]) e2) (o3 : ExOk (· ∈ ([] : List Str)) e3) (h0 : exH e0 ≤ 3) (h1 : exH e1 ≤ 3) (h2 : exH e2 ≤ 3) (h3 : exH e3 ≤ 3) :
    ∃ (φ : Str → Rat → Rat) (wt hd rk : Str → Nat), (∀ S, S = [] ∨ S = [(n4, Ex.call n4 .x)] → Tab (T4 n0 n1 n2 n3 e0 e1 e2 e3 ++ S) φ wt hd (· ∈ [n0, n1, n2, n3]) ∧ Fol (T4 n0 n1 n2 n3 e0 e1 e2 e3 ++ S) (· ∈ [n0, n1, n2, n3]) rk) ∧ (∀ f ∈ [n0, n1, n2, n3], rk f ≤ 3 ∧ wt f ≤ 965 ∧ hd f ≤ 9) := by
  obtain ⟨wt, hwt⟩ : ∃ wt : Str → Nat, wt = fun f => if f = n3 then 83 else if f = n2 then 209 else if f = n1 then 461 else 965 := ⟨_, rfl⟩
  obtain ⟨hd, hhd⟩ : ∃ hd : Str → Nat, hd = fun f => if f = n3 then 3 else if f = n2 then 5 else if f = n1 then 7 else 9 := ⟨_, rfl⟩
  obtain ⟨rk, hrk⟩ : ∃ rk : Str → Nat, rk = fun f => if f = n3 then 0 else if f = n2 then 1 else if f = n1 then 2 else 3 := ⟨_, rfl⟩
  simp only [List.nodup_cons, List.mem_cons, List.not_mem_nil, or_false, not_or, List.nodup_nil, and_true, not_false_eq_true] at nd
  obtain ⟨⟨d01, d02, d03, d04⟩, ⟨d12, d13, d14⟩, ⟨d23, d24⟩, d34⟩ := nd
  have w3 : wt n3 = 83 ∧ hd n3 = 3 ∧ rk n3 = 0 := by rw [hwt, hhd, hrk]; exact ⟨if_pos rfl, if_pos rfl, if_pos rfl⟩
  have w2 : wt n2 = 209 ∧ hd n2 = 5 ∧ rk n2 = 1 := by rw [hwt, hhd, hrk]; simp [d23]
  have w1 : wt n1 = 461 ∧ hd n1 = 7 ∧ rk n1 = 2 := by rw [hwt, hhd, hrk]; simp [d12, d13]
  have w0 : wt n0 = 965 ∧ hd n0 = 9 ∧ rk n0 = 3 := by rw [hwt, hhd, hrk]; simp [d01, d02, d03]
  have a3 := wE_le (wt := wt) (W := 0) (fun f hf => by cases hf) e3 o3
  have a2 := wE_le (wt := wt) (W := 83) (fun f hf => by rw [List.mem_singleton.mp hf, w3.1]; exact Nat.le_refl _) e2 o2
  have a1 := wE_le (wt := wt) (W := 209) (fun f hf => by
    simp only [List.mem_cons, List.not_mem_nil, or_false] at hf
    rcases hf with rfl | rfl
    · omega
    · omega) e1 o1
  have a0 := wE_le (wt := wt) (W := 461) (fun f hf => by
    simp only [List.mem_cons, List.not_mem_nil, or_false] at hf
    rcases hf with rfl | rfl | rfl
    · omega
    · omega
    · omega) e0 o0
  have b3 := hE_le (hd := hd) (H := 1) (fun f hf => by cases hf) (by omega) e3 o3
  have b2 := hE_le (hd := hd) (H := 3) (fun f hf => by rw [List.mem_singleton.mp hf, w3.2.1]; exact Nat.le_refl _) (by omega) e2 o2
  have b1 := hE_le (hd := hd) (H := 5) (fun f hf => by
    simp only [List.mem_cons, List.not_mem_nil, or_false] at hf
    rcases hf with rfl | rfl
    · omega
    · omega) (by omega) e1 o1
  have b0 := hE_le (hd := hd) (H := 7) (fun f hf => by
    simp only [List.mem_cons, List.not_mem_nil, or_false] at hf
    rcases hf with rfl | rfl | rfl
    · omega
    · omega
    · omega) (by omega) e0 o0
  have c3 : bw 0 (exH e3) ≤ 83 := Nat.le_trans (bw_mono h3) (by decide)
  have c2 : bw 83 (exH e2) ≤ 209 := Nat.le_trans (bw_mono h2) (by decide)
  have c1 : bw 209 (exH e1) ≤ 461 := Nat.le_trans (bw_mono h1) (by decide)
  have c0 : bw 461 (exH e0) ≤ 965 := Nat.le_trans (bw_mono h0) (by decide)
  have good : GoodT wt hd (T4 n0 n1 n2 n3 e0 e1 e2 e3) := by
    refine ⟨?_, o0, by show wE wt e0 ≤ wt n0; omega, by show hE hd e0 ≤ hd n0; omega, ?_, o1, by show wE wt e1 ≤ wt n1; omega, by show hE hd e1 ≤ hd n1; omega, ?_, o2, by show wE wt e2 ≤ wt n2; omega, by show hE hd e2 ≤ hd n2; omega, ?_, o3, by show wE wt e3 ≤ wt n3; omega, by show hE hd e3 ≤ hd n3; omega, trivial⟩
    · simp [d01, d02, d03]
    · simp [d12, d13]
    · simp [d23]
    · simp
  have ndS : ∀ S, S = [] ∨ S = [(n4, Ex.call n4 .x)] → ((T4 n0 n1 n2 n3 e0 e1 e2 e3 ++ S).map (·.1)).Nodup := fun S hS => by
    rcases hS with rfl | rfl
    · simp [d01, d02, d03, d12, d13, d23]
    · simp [d01, d02, d03, d04, d12, d13, d14, d23, d24, d34]
  refine ⟨phiL (T4 n0 n1 n2 n3 e0 e1 e2 e3), wt, hd, rk, fun S hS => ⟨goodT_tab good (ndS S hS), ?_⟩, fun f hf => ?_⟩
  · have τ := goodT_tab good (ndS S hS)
    have q0 : defOf (T4 n0 n1 n2 n3 e0 e1 e2 e3 ++ S) n0 = e0 := by rw [defOf_app (by simp)]; exact defOf_hd
    have q1 : defOf (T4 n0 n1 n2 n3 e0 e1 e2 e3 ++ S) n1 = e1 := by rw [defOf_app (by simp), defOf_tl d01]; exact defOf_hd
    have q2 : defOf (T4 n0 n1 n2 n3 e0 e1 e2 e3 ++ S) n2 = e2 := by rw [defOf_app (by simp), defOf_tl d02, defOf_tl d12]; exact defOf_hd
    have q3 : defOf (T4 n0 n1 n2 n3 e0 e1 e2 e3 ++ S) n3 = e3 := by rw [defOf_app (by simp), defOf_tl d03, defOf_tl d13, defOf_tl d23]; exact defOf_hd
    refine ⟨τ.nd, τ.mem, τ.ok, fun f hf => low f (by
      simp only [List.mem_cons, List.not_mem_nil, or_false] at hf ⊢
      rcases hf with z | z | z | z
      · exact .inl z
      · exact .inr (.inl z)
      · exact .inr (.inr (.inl z))
      · exact .inr (.inr (.inr (.inl z)))), fun f hf => ?_, fun f hf g hg => ?_⟩
    · simp only [List.mem_cons, List.not_mem_nil, or_false] at hf
      rcases hf with rfl | rfl | rfl | rfl
      · rw [q0]; exact h0
      · rw [q1]; exact h1
      · rw [q2]; exact h2
      · rw [q3]; exact h3
    · simp only [List.mem_cons, List.not_mem_nil, or_false] at hf
      rcases hf with rfl | rfl | rfl | rfl
      · rw [q0] at hg
        have m := exC_mem o0 g hg
        simp only [List.mem_cons, List.not_mem_nil, or_false] at m
        rcases m with rfl | rfl | rfl <;> omega
      · rw [q1] at hg
        have m := exC_mem o1 g hg
        simp only [List.mem_cons, List.not_mem_nil, or_false] at m
        rcases m with rfl | rfl <;> omega
      · rw [q2] at hg
        have m := exC_mem o2 g hg
        rw [List.mem_singleton.mp m]
        omega
      · rw [q3] at hg
        have m := exC_mem o3 g hg
        cases m
  · simp only [List.mem_cons, List.not_mem_nil, or_false] at hf
    rcases hf with rfl | rfl | rfl | rfl <;> omega
end
end Kx

/- part -/
set_option Elab.async false
set_option linter.all false
set_option maxRecDepth 100000
set_option maxHeartbeats 8000000
namespace Kx
open PySem DL PyProof.Rows
theorem ex_pg {P : Str → Prop} (hp : ∀ f, P f → f.cps.all (· < 0x110000) = true) : ∀ (e : Ex) (n : Nat), ExOk P e → exH e + 2 ≤ n → pg n (exD e) = true
  | e, 0, _, h => by omega
  | e, 1, _, h => by have := exH_pos e; omega
  | .x, n + 2, _, _ => by
    have z := sok_lit "x"
    simp [exD, pg, pgs, z]
  | .num q, n + 2, _, h => by
    have z := sok_lit "number"
    have h : 1 + 2 ≤ n + 2 := h
    obtain ⟨m, rfl⟩ : ∃ m, n = m + 1 := ⟨n - 1, by omega⟩
    simp [exD, qD, pg, pgs, z]
  | .ab e, n + 2, ok, h => by
    have z := sok_lit "abs"
    have h : exH e + 1 + 2 ≤ n + 2 := h
    have ih := ex_pg hp e (n + 1) ok (by omega)
    simp [exD, pg, pgs, z, ih]
  | .mul q e, n + 2, ok, h => by
    have z := sok_lit "multiple"
    have h : exH e + 1 + 2 ≤ n + 2 := h
    have ih := ex_pg hp e (n + 1) ok.2 (by omega)
    obtain ⟨m, rfl⟩ : ∃ m, n = m + 1 := ⟨n - 1, by omega⟩
    simp [exD, qD, pg, pgs, z, ih]
  | .call f e, n + 2, ok, h => by
    have z := sok_lit "call"
    have h : exH e + 1 + 2 ≤ n + 2 := h
    have ih := ex_pg hp e (n + 1) ok.2 (by omega)
    have f1 := hp f ok.1
    simp [exD, pg, pgs, z, f1, ih]
  | .bin o a b, n + 2, ok, h => by
    have h : max (exH a) (exH b) + 1 + 2 ≤ n + 2 := h
    have i1 := ex_pg hp a (n + 1) ok.1 (by omega)
    have i2 := ex_pg hp b (n + 1) ok.2 (by omega)
    have z : (boS o).cps.all (· < 0x110000) = true := by cases o <;> exact sok_lit _
    simp [exD, pg, pgs, z, i1, i2]
theorem nodK_str : ∀ {l : List Str}, l.Nodup → nodK (l.map D.str) = true
  | [], _ => rfl
  | x :: l, h => by
    rw [List.nodup_cons] at h
    show ((fIx (nk (.str x)) (l.map D.str)).isNone && nodK (l.map D.str)) = true
    rw [nodK_str h.2, keyS.fIx]
    have e : (l.findIdx? fun y => decide (y = x)) = none := by
      rw [List.findIdx?_eq_none_iff]
      intro y hy
      exact decide_eq_false fun z => h.1 (z ▸ hy)
    rw [e]
    rfl
theorem dict_tab {T : List (Str × Ex)} (nd : (T.map (·.1)).Nodup) (tl : T.length ≤ 100) : gDictP [.lst (T.map prE)] = some (.ow (.xt .dct (T.map fun p => D.str p.1) (T.map fun p => exD p.2))) := by
  have e : splitP (T.map prE) = some (T.map (fun p => D.str p.1), T.map fun p => exD p.2) := splitP_map (f := fun p : Str × Ex => D.str p.1) (g := fun p => exD p.2) T
  have m1 : (T.map fun p => D.str p.1) = (T.map (·.1)).map D.str := by rw [List.map_map]; rfl
  show (match splitP (T.map prE) with
    | some (ks, vs) => if (ks.all leafD && nodK ks && decide (ks.length ≤ 1000000)) = true then some (RV.ow (.xt .dct ks vs)) else none
    | none => none) = _
  rw [e]
  have c : ((T.map fun p => D.str p.1).all leafD && nodK (T.map fun p => D.str p.1) && decide ((T.map fun p => D.str p.1).length ≤ 1000000)) = true := by
    rw [List.length_map, m1, nodK_str nd, List.all_map]
    have : ((T.map (·.1)).all (leafD ∘ D.str)) = true := List.all_eq_true.mpr fun _ _ => rfl
    rw [this, decide_eq_true (show T.length ≤ 1000000 by omega)]
    rfl
  show (if _ = true then _ else none) = _
  rw [if_pos c]
theorem tab0 : Tab [] (phiL []) (fun _ => 0) (fun _ => 1) (· ∈ (([] : List (Str × Ex)).map (·.1))) := goodT_tab (T := []) (S := []) trivial List.nodup_nil
theorem fol0 : Fol [] (· ∈ (([] : List (Str × Ex)).map (·.1))) (fun _ => 0) := ⟨List.nodup_nil, fun f h => (by cases h), fun f h => (by cases h), fun f h => (by cases h), fun f h => (by cases h), fun f h => (by cases h)⟩
theorem q13 : D.tup [.int 1, .int 3] = qD (1 / 3) := by
  unfold qD
  rw [show (1 / 3 : Rat).num = 1 from by decide +kernel, show (1 / 3 : Rat).den = 3 from by decide +kernel]
  rfl
theorem F6_13 : F6 (1 / 3) := ⟨by rw [show (1 / 3 : Rat).num = 1 from by decide +kernel]; decide, by rw [show (1 / 3 : Rat).den = 3 from by decide +kernel]; decide⟩
theorem plain_small {e : Ex} (ok : ExOk (· ∈ (([] : List (Str × Ex)).map (·.1))) e) (eh : exH e ≤ 4) : wE (fun _ => 0) e ≤ 200 ∧ hE (fun _ => 1) e ≤ 12 := by
  have a := wE_le (wt := fun _ => 0) (W := 0) (fun f hf => by cases hf) e ok
  have b := hE_le (hd := fun _ => 1) (H := 1) (fun f hf => by cases hf) (by omega) e ok
  have c : bw 0 (exH e) ≤ 200 := Nat.le_trans (bw_mono eh) (by decide)
  exact ⟨by omega, by omega⟩
theorem peval_wp {e : Ex} {Q : RV → SE → Prop} {E : Exc → SE → Prop} (ok : ExOk (· ∈ (([] : List (Str × Ex)).map (·.1))) e) (eh : exH e ≤ 4) (K : Q (.im (qD (evx (phiL []) e (1 / 3)))) [.im (exD e), .im (.tup [.int 1, .int 3]), .im (.tup [])]) : WP (m_evaluate [.im (exD e), .im (.tup [.int 1, .int 3]), .im (.tup [])]) Q E := by
  obtain ⟨qi, qd0, qd, qs⟩ := F6_13.inn
  obtain ⟨s1, s2⟩ := plain_small ok eh
  have et : D.tup [] = .tup (([] : List (Str × Ex)).map prE) := rfl
  rw [q13, et] at K ⊢
  exact eval_wp fol0 tab0 (e := e) (v := 1 / 3) (a := 21) (.inr rfl) (by decide) ok eh (fun f h => (by cases h)) s2 qi qd0 qd qs (by omega) K
theorem plval_ok {e : Ex} (ok : ExOk (· ∈ (([] : List (Str × Ex)).map (·.1))) e) (eh : exH e ≤ 4) : m__law_evaluated 12 [.im (exD e), .im (.tup [.int 1, .int 3]), .im (.xt .dct [] [])] = .ok (.im (qD (evx (phiL []) e (1 / 3)))) [.im (exD e), .im (.tup [.int 1, .int 3]), .im (.xt .dct [] [])] := by
  obtain ⟨qi, qd0, qd, qs⟩ := F6_13.inn
  obtain ⟨s1, s2⟩ := plain_small ok eh
  rw [q13]
  exact lval_ok tab0 12 (e := e) (v := 1 / 3) (a := 21) s2 ok qi qd0 qd qs (by omega)
theorem law_good : LawGood m_law := by
  intro sc hsc
  suffices h : WP (m_law [.im (.scr sc)]) (fun x _ => x = .im (.bl true)) noX by
    obtain ⟨x, ρ, e, rfl⟩ := Wp.some h
    exact ⟨ρ, e⟩
  refine wp_fn ?_
  simp [b_law]
  refine begin_wp hsc fun r0 hr0 => ?_
  have g4 : rngOk 4 = true := by decide
  have g3 : rngOk 3 = true := by decide
  simp [g4]
  refine wp_floopJ (fun _ ρ => ∃ (r : List D) (x2 x3 x4 x5 x6 x7 x8 x9 x10 x11 x12 x13 : SV), RngOk r ∧ (Nio x2 ∧ Nio x3 ∧ Nio x4 ∧ Nio x5 ∧ Nio x6 ∧ Nio x7) ∧ (Nio x8 ∧ Nio x9 ∧ Nio x10 ∧ Nio x11 ∧ Nio x12 ∧ Nio x13) ∧ ρ = [.im (.scr sc), .ow false (.ls r), x2, x3, x4, x5, x6, x7, x8, x9, x10, x11, x12, x13])
    ⟨r0, .no, .no, .no, .no, .no, .no, .no, .no, .no, .no, .no, .no, hr0, ⟨nio_no, nio_no, nio_no, nio_no, nio_no, nio_no⟩, ⟨nio_no, nio_no, nio_no, nio_no, nio_no, nio_no⟩, rfl⟩ ?_ ?_
  · rintro i d ρ J hd ⟨r, x2, x3, x4, x5, x6, x7, x8, x9, x10, x11, x12, x13, hr, ⟨h2, h3, h4, h5, h6, h7⟩, ⟨h8, h9, h10, h11, h12, h13⟩, rfl⟩ hJ
    rw [List.getElem?_map] at hd
    obtain ⟨j, _, hj⟩ := Option.map_eq_some_iff.mp hd
    subst hj
    simp [h2]
    refine names_wpN hr (by omega) (by omega) fun ns r1 hl hn nd hr1 => ?_
    obtain ⟨n0, n1, n2, n3, n4, rfl⟩ : ∃ n0 n1 n2 n3 n4, ns = [n0, n1, n2, n3, n4] := by
      match ns, hl with
      | [a, b, c, d, e], _ => exact ⟨a, b, c, d, e, rfl⟩
      | [], h => simp at h
      | [_], h => simp at h
      | [_, _], h => simp at h
      | [_, _, _], h => simp at h
      | [_, _, _, _], h => simp at h
      | _ :: _ :: _ :: _ :: _ :: _ :: _, h => simp at h; omega
    have low : ∀ x ∈ [n0, n1, n2, n3, n4], x.cps.all (· < 0x110000) = true := fun x hx => low_okc (hn x hx).1
    have low4 : ∀ x ∈ [n0, n1, n2, n3], x.cps.all (· < 0x110000) = true := fun x hx => low x (by
      simp only [List.mem_cons, List.not_mem_nil, or_false] at hx ⊢
      rcases hx with z | z | z | z
      · exact .inl z
      · exact .inr (.inl z)
      · exact .inr (.inr (.inl z))
      · exact .inr (.inr (.inr (.inl z))))
    simp [h3]
    have m4 : [D.str n0, .str n1, .str n2, .str n3] = [n0, n1, n2, n3].map D.str := rfl
    rw [m4]
    refine ldefs_wp (ns := [n0, n1, n2, n3]) hr1 low4 (by simp) fun T r2 tl dok hr2 => ?_
    obtain ⟨p0, p1, p2, p3, rfl⟩ : ∃ p0 p1 p2 p3, T = [p0, p1, p2, p3] := by
      match T, tl with
      | [a, b, c, d], _ => exact ⟨a, b, c, d, rfl⟩
    obtain ⟨m0, e0⟩ := p0
    obtain ⟨m1, e1⟩ := p1
    obtain ⟨m2, e2⟩ := p2
    obtain ⟨m3, e3⟩ := p3
    obtain ⟨q0, o0, k0⟩ := dok 0 _ rfl
    obtain ⟨q1, o1, k1q⟩ := dok 1 _ rfl
    obtain ⟨q2, o2, k2⟩ := dok 2 _ rfl
    obtain ⟨q3, o3, k3⟩ := dok 3 _ rfl
    obtain rfl : m0 = n0 := Option.some.inj q0
    obtain rfl : m1 = n1 := Option.some.inj q1
    obtain rfl : m2 = n2 := Option.some.inj q2
    obtain rfl : m3 = n3 := Option.some.inj q3
    obtain ⟨φ, wt, hdp, rk, F4, B4⟩ := four nd low o0 o1 o2 o3 k0 k1q k2 k3
    have tl : True := trivial
    obtain ⟨T, hT⟩ : ∃ T, T = T4 m0 m1 m2 m3 e0 e1 e2 e3 := ⟨_, rfl⟩
    have eT : [prE (m0, e0), prE (m1, e1), prE (m2, e2), prE (m3, e3)] = T.map prE := by rw [hT]; rfl
    have lT : T.length = 4 := by rw [hT]; rfl
    rw [← hT] at F4
    simp [h4]
    have m4' : [D.str m0, .str m1, .str m2, .str m3] = [m0, m1, m2, m3].map D.str := rfl
    rw [eT, m4']
    obtain ⟨σ0, τ0⟩ := F4 [] (.inl rfl)
    rw [List.append_nil] at σ0 τ0
    refine expr_wp (ns := [m0, m1, m2, m3]) low4 (by simp) 8 hr2 (by omega) (by omega) (by omega) fun e r3 eo eh hr3 => ?_
    have eh4 : exH e ≤ 4 := by omega
    have dt := dict_tab σ0.nd (by omega)
    have wle := wE_le (wt := wt) (W := 965) (fun f hf => (B4 f hf).2.1) e eo
    have hle := hE_le (hd := hdp) (H := 9) (fun f hf => (B4 f hf).2.2) (by omega) e eo
    have w4 : bw 965 (exH e) ≤ 3947 := Nat.le_trans (bw_mono eh4) (by decide)
    have at4 : L2.atI [D.str m0, D.str m1, D.str m2, D.str m3, D.str n4] 4 = some (.str n4) := rfl
    simp [h5, h9, h10, at4]
    refine draw_wp hr3 (by omega) (by omega) fun k1 r4 c1 c2 hr4 => ?_
    have all : ∀ p ∈ T, p.1.cps.all (· < 0x110000) = true ∧ ∃ P : Str → Prop, (∀ f, P f → f.cps.all (· < 0x110000) = true) ∧ ExOk P p.2 ∧ exH p.2 ≤ 3 := fun p hp => by
      rw [hT] at hp
      simp only [List.mem_cons, List.not_mem_nil, or_false] at hp
      rcases hp with rfl | rfl | rfl | rfl
      · exact ⟨low m0 (by simp), _, fun f hf => low4 f (List.mem_of_mem_drop hf), o0, k0⟩
      · exact ⟨low m1 (by simp), _, fun f hf => low4 f (List.mem_of_mem_drop hf), o1, k1q⟩
      · exact ⟨low m2 (by simp), _, fun f hf => low4 f (List.mem_of_mem_drop hf), o2, k2⟩
      · exact ⟨low m3 (by simp), _, fun f hf => low4 f (List.mem_of_mem_drop hf), o3, k3⟩
    by_cases c : k1 = 0
    · have apS : gAppend (T.map prE) [.tup [.str n4, .tup [.str "call", .str n4, .tup [.str "x"]]]] = some (.non, (T ++ [(n4, Ex.call n4 .x)]).map prE) := by
        rw [app_ok (by rw [List.length_map]; omega), List.map_append]
        rfl
      obtain ⟨σ, τ⟩ := F4 [(n4, Ex.call n4 .x)] (.inr rfl)
      have all' : ∀ p ∈ T ++ [(n4, Ex.call n4 .x)], p.1.cps.all (· < 0x110000) = true ∧ ∃ P : Str → Prop, (∀ f, P f → f.cps.all (· < 0x110000) = true) ∧ ExOk P p.2 ∧ exH p.2 ≤ 3 := fun p hp => by
        rcases List.mem_append.mp hp with z | z
        · exact all p z
        · rw [List.mem_singleton.mp z]
          exact ⟨low n4 (by simp), (· ∈ [m0, m1, m2, m3, n4]), low, ⟨by simp, trivial⟩, by show 1 + 1 ≤ 3; decide⟩
      simp [-List.map_append, c, apS, h6]
      obtain ⟨T', hT'⟩ : ∃ T', T' = T ++ [(n4, Ex.call n4 .x)] := ⟨_, rfl⟩
      rw [← hT'] at σ τ all' ⊢
      have lT' : T'.length ≤ 5 := by rw [hT', List.length_append, lT]; simp
      have l2 : (T'.map prE).length ≤ 100 := by rw [List.length_map]; omega
      have neL : neD (.lst (T'.map prE)) (.lst (T'.map prE)) = some (.im (.bl false)) := ne_self (n := 9) (by
        have key : ∀ S : List (Str × Ex), (∀ p ∈ S, p.1.cps.all (· < 0x110000) = true ∧ ∃ P : Str → Prop, (∀ f, P f → f.cps.all (· < 0x110000) = true) ∧ ExOk P p.2 ∧ exH p.2 ≤ 3) → pgs 8 (S.map prE) = true := fun S => by
          induction S with
          | nil => exact fun _ => by unfold pgs; rfl
          | cons p S ih =>
            intro h
            obtain ⟨l1, P, hP, ok, le⟩ := h p List.mem_cons_self
            have z := ex_pg hP p.2 7 ok (by omega)
            have i := ih fun q hq => h q (List.mem_cons_of_mem _ hq)
            rw [List.map_cons]
            unfold pgs
            rw [i]
            show (pgs 7 [.str p.1, exD p.2] && true) = true
            simp [pgs, pg, l1, z]
        unfold pg
        exact key T' all') (by decide)
      simp [g3]
      refine wp_floopJ (fun _ ρ => ∃ (r : List D) (x7 x9 x11 x12 x13 : SV), RngOk r ∧ (x9 = .ow false (.ls (T'.map prE)) ∨ x9 = .im (.lst (T'.map prE))) ∧ (Nio x7 ∧ Nio x11 ∧ Nio x12 ∧ Nio x13) ∧ ρ = [.im (.scr sc), .ow false (.ls r), .im (.int (j : Int)), .ow false (.ls [D.str m0, D.str m1, D.str m2, D.str m3, D.str n4]), .ow false (.ls (T.map prE)), .im (exD e), .ow false (.ls (T'.map prE)), x7, x8, x9, .im (.tup [.str n4, .tup [.str "call", .str n4, .tup [.str "x"]]]), x11, x12, x13])
        ⟨r4, x7, _, x11, x12, x13, hr4, .inl rfl, ⟨h7, h11, h12, h13⟩, rfl⟩ ?_ ?_
      · clear hr4
        rintro i d ρ J' hd ⟨r, x7, x9, x11, x12, x13, hr4, hx9, ⟨h7, h11, h12, h13⟩, rfl⟩ hJ'
        rw [List.getElem?_map] at hd
        obtain ⟨j2, _, hj2⟩ := Option.map_eq_some_iff.mp hd
        subst hj2
        simp [h7]
        refine anyf_wp hr4 fun q r5 hq hr5 => ?_
        obtain ⟨qi, qd0, qd, qs⟩ := hq.inn
        have lv : m__law_evaluated 12 [.im (exD e), .im (qD q), .im (.xt .dct (T.map fun p => D.str p.1) (T.map fun p => exD p.2))] = .ok (.im (qD (evx φ e q))) [.im (exD e), .im (qD q), .im (.xt .dct (T.map fun p => D.str p.1) (T.map fun p => exD p.2))] := lval_ok σ0 12 (e := e) (v := q) (a := 21) (by omega) eo qi qd0 qd qs (by omega)
        have sm := same_self 8 (qD (evx φ e q)) (by simp [qD, sg, sgs])
        have go : ∀ r7 x9' x13', RngOk r7 → (x9' = .ow false (.ls (T'.map prE)) ∨ x9' = .im (.lst (T'.map prE))) → Nio x13' → J' [.im (.scr sc), .ow false (.ls r7), .im (.int (j : Int)), .ow false (.ls [D.str m0, D.str m1, D.str m2, D.str m3, D.str n4]), .ow false (.ls (T.map prE)), .im (exD e), .ow false (.ls (T'.map prE)), .im (.int (j2 : Int)), x8, x9', .im (.tup [.str n4, .tup [.str "call", .str n4, .tup [.str "x"]]]), .im (qD q), .im (qD (evx φ e q)), x13'] := fun r7 x9' x13' a1 a2 a3 => hJ' _ ⟨r7, _, _, _, _, _, a1, a2, ⟨nio_im, nio_im, nio_im, a3⟩, rfl⟩
        rcases hx9 with rfl | rfl
        all_goals
          simp [h11, h12, dt, lv]
          refine pick_wp hr5 (by simp) (by simp) fun dd r6 hdd hr6 => ?_
          have hdd : dd = .lst (T'.map prE) ∨ dd = .tup (T'.map prE) := by
            simp only [List.mem_cons, List.not_mem_nil, or_false] at hdd
            exact hdd
          simp [h13]
          refine eval_wp τ σ (e := e) (v := q) (a := 21) hdd (by omega) eo eh4 (fun f hf => (B4 f hf).1) (by omega) qi qd0 qd qs (by omega) ?_
          simp [sm, neL]
          exact go _ _ _ hr6 (.inr rfl) nio_im
      · rintro ρ ⟨r, x7, x9, x11, x12, x13, hr4, hx9, ⟨h7, h11, h12, h13⟩, rfl⟩
        simp [h8]
        have en : D.lst [] = .lst (([] : List Str).map D.str) := rfl
        rw [en]
        refine expr_wp (ns := []) (fun x hx => by cases hx) (by decide) 8 hr4 (by omega) (by omega) (by omega) fun e8 r8 eo8 eh8 hr8 => ?_
        have pl := plval_ok eo8 (by omega)
        have nq : ∀ r : Rat, neD (qD r) (qD r) = some (.im (.bl false)) := fun r => ne_self (n := 3) (by simp [qD, pg, pgs]) (by decide)
        simp [h8]
        refine peval_wp eo8 (by omega) ?_
        simp [pl, nq]
        have n9' : Nio x9 := by
          rcases hx9 with rfl | rfl
          · exact nio_ow
          · exact nio_im
        exact hJ _ ⟨r8, _, _, _, _, _, _, _, _, _, _, _, _, hr8, ⟨nio_im, nio_ow, nio_ow, nio_im, nio_ow, h7⟩, ⟨nio_im, n9', nio_im, h11, h12, h13⟩, rfl⟩
    · simp [c, h6]
      have l2 : (T.map prE).length ≤ 100 := by rw [List.length_map]; omega
      have neL : neD (.lst (T.map prE)) (.lst (T.map prE)) = some (.im (.bl false)) := ne_self (n := 9) (by
        have key : ∀ S : List (Str × Ex), (∀ p ∈ S, p.1.cps.all (· < 0x110000) = true ∧ ∃ P : Str → Prop, (∀ f, P f → f.cps.all (· < 0x110000) = true) ∧ ExOk P p.2 ∧ exH p.2 ≤ 3) → pgs 8 (S.map prE) = true := fun S => by
          induction S with
          | nil => exact fun _ => by unfold pgs; rfl
          | cons p S ih =>
            intro h
            obtain ⟨l1, P, hP, ok, le⟩ := h p List.mem_cons_self
            have z := ex_pg hP p.2 7 ok (by omega)
            have i := ih fun q hq => h q (List.mem_cons_of_mem _ hq)
            rw [List.map_cons]
            unfold pgs
            rw [i]
            show (pgs 7 [.str p.1, exD p.2] && true) = true
            simp [pgs, pg, l1, z]
        unfold pg
        exact key T all) (by decide)
      simp [g3]
      refine wp_floopJ (fun _ ρ => ∃ (r : List D) (x7 x9 x11 x12 x13 : SV), RngOk r ∧ (x9 = .ow false (.ls (T.map prE)) ∨ x9 = .im (.lst (T.map prE))) ∧ (Nio x7 ∧ Nio x11 ∧ Nio x12 ∧ Nio x13) ∧ ρ = [.im (.scr sc), .ow false (.ls r), .im (.int (j : Int)), .ow false (.ls [D.str m0, D.str m1, D.str m2, D.str m3, D.str n4]), .ow false (.ls (T.map prE)), .im (exD e), .ow false (.ls (T.map prE)), x7, x8, x9, .im (.tup [.str n4, .tup [.str "call", .str n4, .tup [.str "x"]]]), x11, x12, x13])
        ⟨r4, x7, _, x11, x12, x13, hr4, .inl rfl, ⟨h7, h11, h12, h13⟩, rfl⟩ ?_ ?_
      · clear hr4
        rintro i d ρ J' hd ⟨r, x7, x9, x11, x12, x13, hr4, hx9, ⟨h7, h11, h12, h13⟩, rfl⟩ hJ'
        rw [List.getElem?_map] at hd
        obtain ⟨j2, _, hj2⟩ := Option.map_eq_some_iff.mp hd
        subst hj2
        simp [h7]
        refine anyf_wp hr4 fun q r5 hq hr5 => ?_
        obtain ⟨qi, qd0, qd, qs⟩ := hq.inn
        have lv : m__law_evaluated 12 [.im (exD e), .im (qD q), .im (.xt .dct (T.map fun p => D.str p.1) (T.map fun p => exD p.2))] = .ok (.im (qD (evx φ e q))) [.im (exD e), .im (qD q), .im (.xt .dct (T.map fun p => D.str p.1) (T.map fun p => exD p.2))] := lval_ok σ0 12 (e := e) (v := q) (a := 21) (by omega) eo qi qd0 qd qs (by omega)
        have sm := same_self 8 (qD (evx φ e q)) (by simp [qD, sg, sgs])
        have go : ∀ r7 x9' x13', RngOk r7 → (x9' = .ow false (.ls (T.map prE)) ∨ x9' = .im (.lst (T.map prE))) → Nio x13' → J' [.im (.scr sc), .ow false (.ls r7), .im (.int (j : Int)), .ow false (.ls [D.str m0, D.str m1, D.str m2, D.str m3, D.str n4]), .ow false (.ls (T.map prE)), .im (exD e), .ow false (.ls (T.map prE)), .im (.int (j2 : Int)), x8, x9', .im (.tup [.str n4, .tup [.str "call", .str n4, .tup [.str "x"]]]), .im (qD q), .im (qD (evx φ e q)), x13'] := fun r7 x9' x13' a1 a2 a3 => hJ' _ ⟨r7, _, _, _, _, _, a1, a2, ⟨nio_im, nio_im, nio_im, a3⟩, rfl⟩
        rcases hx9 with rfl | rfl
        all_goals
          simp [h11, h12, dt, lv]
          refine pick_wp hr5 (by simp) (by simp) fun dd r6 hdd hr6 => ?_
          have hdd : dd = .lst (T.map prE) ∨ dd = .tup (T.map prE) := by
            simp only [List.mem_cons, List.not_mem_nil, or_false] at hdd
            exact hdd
          simp [h13]
          refine eval_wp τ0 σ0 (e := e) (v := q) (a := 21) hdd (by omega) eo eh4 (fun f hf => (B4 f hf).1) (by omega) qi qd0 qd qs (by omega) ?_
          simp [sm, neL]
          exact go _ _ _ hr6 (.inr rfl) nio_im
      · rintro ρ ⟨r, x7, x9, x11, x12, x13, hr4, hx9, ⟨h7, h11, h12, h13⟩, rfl⟩
        simp [h8]
        have en : D.lst [] = .lst (([] : List Str).map D.str) := rfl
        rw [en]
        refine expr_wp (ns := []) (fun x hx => by cases hx) (by decide) 8 hr4 (by omega) (by omega) (by omega) fun e8 r8 eo8 eh8 hr8 => ?_
        have pl := plval_ok eo8 (by omega)
        have nq : ∀ r : Rat, neD (qD r) (qD r) = some (.im (.bl false)) := fun r => ne_self (n := 3) (by simp [qD, pg, pgs]) (by decide)
        simp [h8]
        refine peval_wp eo8 (by omega) ?_
        simp [pl, nq]
        have n9' : Nio x9 := by
          rcases hx9 with rfl | rfl
          · exact nio_ow
          · exact nio_im
        exact hJ _ ⟨r8, _, _, _, _, _, _, _, _, _, _, _, _, hr8, ⟨nio_im, nio_ow, nio_ow, nio_im, nio_ow, h7⟩, ⟨nio_im, n9', nio_im, h11, h12, h13⟩, rfl⟩
  · rintro ρ ⟨r, x2, x3, x4, x5, x6, x7, x8, x9, x10, x11, x12, x13, hr, ⟨h2, h3, h4, h5, h6, h7⟩, ⟨h8, h9, h10, h11, h12, h13⟩, rfl⟩
    have fe : D.tup [.str "abs", .tup [.str "subtract", .tup [.str "x"], .tup [.str "number", .tup [.int 1, .int 1]]]] = exD (.ab (.bin .sub .x (.num 1))) := rfl
    have fv : evx (phiL []) (.ab (.bin .sub .x (.num 1))) (1 / 3) = 2 / 3 := by decide +kernel
    have q23 : D.tup [.int 2, .int 3] = qD (2 / 3) := by
      unfold qD
      rw [show (2 / 3 : Rat).num = 2 from by decide +kernel, show (2 / 3 : Rat).den = 3 from by decide +kernel]
      rfl
    have eq : eqD (qD (2 / 3)) (.tup [.int 2, .int 3]) = some (.im (.bl true)) := by
      rw [q23]
      exact eq_self (n := 3) (by simp [qD, pg, pgs]) (by decide)
    simp
    rw [fe]
    refine peval_wp (e := .ab (.bin .sub .x (.num 1))) ⟨trivial, ⟨by decide, by decide⟩⟩ (by decide) ?_
    rw [fv]
    simp [eq]
end Kx

/- part -/
set_option Elab.async false
set_option linter.all false
set_option maxRecDepth 100000
set_option maxHeartbeats 4000000
namespace Kx
noncomputable section
open PySem PySem.Spec PyProof.Rows L2 DL
abbrev si_OutOfRange : Stmt := L2.inClass (topS 2) 0
theorem sci_OutOfRange : FnScope ["self"] ["self"] (defScope si_OutOfRange) := ⟨rfl, rfl, rfl, by decide +kernel, rfl, by decide +kernel, by decide +kernel⟩
open PySem.W in
theorem all_mk {l : PySem.W.OpenLaw} {w : World} {K : PySem.W.Frag} {h : Heap} {mg : Str → Option Value} {fa f__law_begin f__law_draw f__law_pick f__law_letters f__law_names f__law_lowest f__law_text_fraction f__law_expression f__law_definitions f__law_any_fraction f__law_times f__law_plus f__law_minus f__law_less f__law_evaluated f__law_same f_common_divisor f_fraction f_multiply f_subtract f_add f_is_less f_larger f_smaller f_value_of f_calls_in f_follow f_checked_table f_evaluate f_law T_fraction W_evaluate D0 T_ZERO C_OutOfRange i_OutOfRange N_OutOfRange : Addr} (X : K.In h) (G : h.Ns mainGlobals mg) (hfa : mg "law" = some (.ref fa))
    {od__law_begin an__law_begin od__law_draw an__law_draw od__law_pick an__law_pick od__law_letters an__law_letters od__law_names an__law_names od__law_lowest an__law_lowest od__law_text_fraction an__law_text_fraction od__law_expression an__law_expression od__law_definitions an__law_definitions od__law_any_fraction an__law_any_fraction od__law_times an__law_times od__law_plus an__law_plus od__law_minus an__law_minus od__law_less an__law_less od__law_evaluated an__law_evaluated od__law_same an__law_same od_common_divisor an_common_divisor od_fraction an_fraction od_multiply an_multiply od_subtract an_subtract od_add an_add od_is_less an_is_less od_larger an_larger od_smaller an_smaller od_value_of an_value_of od_calls_in an_calls_in od_follow an_follow od_checked_table an_checked_table od_evaluate an_evaluate od_law an_law od_OutOfRange an_OutOfRange : Option Addr} {sl__law_begin sl__law_draw sl__law_pick sl__law_letters sl__law_names sl__law_lowest sl__law_text_fraction sl__law_expression sl__law_definitions sl__law_any_fraction sl__law_times sl__law_plus sl__law_minus sl__law_less sl__law_evaluated sl__law_same sl_common_divisor sl_fraction sl_multiply sl_subtract sl_add sl_is_less sl_larger sl_smaller sl_value_of sl_calls_in sl_follow sl_checked_table sl_evaluate sl_law sl_OutOfRange : Array (Option Value)} {oc__law_begin kV__law_begin dc__law_begin pm__law_begin ct__law_begin cd__law_begin oc__law_draw kV__law_draw dc__law_draw pm__law_draw ct__law_draw cd__law_draw oc__law_pick kV__law_pick dc__law_pick pm__law_pick ct__law_pick cd__law_pick oc__law_letters kV__law_letters dc__law_letters pm__law_letters ct__law_letters cd__law_letters oc__law_names kV__law_names dc__law_names pm__law_names ct__law_names cd__law_names oc__law_lowest kV__law_lowest dc__law_lowest pm__law_lowest ct__law_lowest cd__law_lowest oc__law_text_fraction kV__law_text_fraction dc__law_text_fraction pm__law_text_fraction ct__law_text_fraction cd__law_text_fraction oc__law_expression kV__law_expression dc__law_expression pm__law_expression ct__law_expression cd__law_expression oc__law_definitions kV__law_definitions dc__law_definitions pm__law_definitions ct__law_definitions cd__law_definitions oc__law_any_fraction kV__law_any_fraction dc__law_any_fraction pm__law_any_fraction ct__law_any_fraction cd__law_any_fraction oc__law_times kV__law_times dc__law_times pm__law_times ct__law_times cd__law_times oc__law_plus kV__law_plus dc__law_plus pm__law_plus ct__law_plus cd__law_plus oc__law_minus kV__law_minus dc__law_minus pm__law_minus ct__law_minus cd__law_minus oc__law_less kV__law_less dc__law_less pm__law_less ct__law_less cd__law_less oc__law_evaluated kV__law_evaluated dc__law_evaluated pm__law_evaluated ct__law_evaluated cd__law_evaluated oc__law_same kV__law_same dc__law_same pm__law_same ct__law_same cd__law_same oc_common_divisor kV_common_divisor dc_common_divisor pm_common_divisor ct_common_divisor cd_common_divisor oc_fraction kV_fraction dc_fraction pm_fraction ct_fraction cd_fraction oc_multiply kV_multiply dc_multiply pm_multiply ct_multiply cd_multiply oc_subtract kV_subtract dc_subtract pm_subtract ct_subtract cd_subtract oc_add kV_add dc_add pm_add ct_add cd_add oc_is_less kV_is_less dc_is_less pm_is_less ct_is_less cd_is_less oc_larger kV_larger dc_larger pm_larger ct_larger cd_larger oc_smaller kV_smaller dc_smaller pm_smaller ct_smaller cd_smaller oc_value_of kV_value_of dc_value_of pm_value_of ct_value_of cd_value_of oc_calls_in kV_calls_in dc_calls_in pm_calls_in ct_calls_in cd_calls_in oc_follow kV_follow dc_follow pm_follow ct_follow cd_follow oc_checked_table kV_checked_table dc_checked_table pm_checked_table ct_checked_table cd_checked_table oc_evaluate dc_evaluate pm_evaluate ct_evaluate cd_evaluate oc_law kV_law dc_law pm_law ct_law cd_law oc_OutOfRange kV_OutOfRange dc_OutOfRange pm_OutOfRange ct_OutOfRange cd_OutOfRange : Value}
    (a__law_begin : nsIn K mainGlobals "_law_begin" = some (some (.ref f__law_begin)))
    (l__law_begin : K.lookup f__law_begin = some ⟨oc__law_begin, od__law_begin, .func (fnOf "_law_begin" "_law_begin" (defArgs s__law_begin) (defBody s__law_begin) (defScope s__law_begin) .none kV__law_begin dc__law_begin pm__law_begin an__law_begin cd__law_begin ct__law_begin), sl__law_begin⟩)
    (e__law_begin : codeIn K cd__law_begin "_law_begin" = true)
    (k__law_begin : keepIn K (.ref f__law_begin) = true)
    (a__law_draw : nsIn K mainGlobals "_law_draw" = some (some (.ref f__law_draw)))
    (l__law_draw : K.lookup f__law_draw = some ⟨oc__law_draw, od__law_draw, .func (fnOf "_law_draw" "_law_draw" (defArgs s__law_draw) (defBody s__law_draw) (defScope s__law_draw) .none kV__law_draw dc__law_draw pm__law_draw an__law_draw cd__law_draw ct__law_draw), sl__law_draw⟩)
    (e__law_draw : codeIn K cd__law_draw "_law_draw" = true)
    (k__law_draw : keepIn K (.ref f__law_draw) = true)
    (a__law_pick : nsIn K mainGlobals "_law_pick" = some (some (.ref f__law_pick)))
    (l__law_pick : K.lookup f__law_pick = some ⟨oc__law_pick, od__law_pick, .func (fnOf "_law_pick" "_law_pick" (defArgs s__law_pick) (defBody s__law_pick) (defScope s__law_pick) .none kV__law_pick dc__law_pick pm__law_pick an__law_pick cd__law_pick ct__law_pick), sl__law_pick⟩)
    (e__law_pick : codeIn K cd__law_pick "_law_pick" = true)
    (k__law_pick : keepIn K (.ref f__law_pick) = true)
    (a__law_letters : nsIn K mainGlobals "_law_letters" = some (some (.ref f__law_letters)))
    (l__law_letters : K.lookup f__law_letters = some ⟨oc__law_letters, od__law_letters, .func (fnOf "_law_letters" "_law_letters" (defArgs s__law_letters) (defBody s__law_letters) (defScope s__law_letters) .none kV__law_letters dc__law_letters pm__law_letters an__law_letters cd__law_letters ct__law_letters), sl__law_letters⟩)
    (e__law_letters : codeIn K cd__law_letters "_law_letters" = true)
    (k__law_letters : keepIn K (.ref f__law_letters) = true)
    (a__law_names : nsIn K mainGlobals "_law_names" = some (some (.ref f__law_names)))
    (l__law_names : K.lookup f__law_names = some ⟨oc__law_names, od__law_names, .func (fnOf "_law_names" "_law_names" (defArgs s__law_names) (defBody s__law_names) (defScope s__law_names) .none kV__law_names dc__law_names pm__law_names an__law_names cd__law_names ct__law_names), sl__law_names⟩)
    (e__law_names : codeIn K cd__law_names "_law_names" = true)
    (k__law_names : keepIn K (.ref f__law_names) = true)
    (a__law_lowest : nsIn K mainGlobals "_law_lowest" = some (some (.ref f__law_lowest)))
    (l__law_lowest : K.lookup f__law_lowest = some ⟨oc__law_lowest, od__law_lowest, .func (fnOf "_law_lowest" "_law_lowest" (defArgs s__law_lowest) (defBody s__law_lowest) (defScope s__law_lowest) .none kV__law_lowest dc__law_lowest pm__law_lowest an__law_lowest cd__law_lowest ct__law_lowest), sl__law_lowest⟩)
    (e__law_lowest : codeIn K cd__law_lowest "_law_lowest" = true)
    (k__law_lowest : keepIn K (.ref f__law_lowest) = true)
    (a__law_text_fraction : nsIn K mainGlobals "_law_text_fraction" = some (some (.ref f__law_text_fraction)))
    (l__law_text_fraction : K.lookup f__law_text_fraction = some ⟨oc__law_text_fraction, od__law_text_fraction, .func (fnOf "_law_text_fraction" "_law_text_fraction" (defArgs s__law_text_fraction) (defBody s__law_text_fraction) (defScope s__law_text_fraction) .none kV__law_text_fraction dc__law_text_fraction pm__law_text_fraction an__law_text_fraction cd__law_text_fraction ct__law_text_fraction), sl__law_text_fraction⟩)
    (e__law_text_fraction : codeIn K cd__law_text_fraction "_law_text_fraction" = true)
    (k__law_text_fraction : keepIn K (.ref f__law_text_fraction) = true)
    (a__law_expression : nsIn K mainGlobals "_law_expression" = some (some (.ref f__law_expression)))
    (l__law_expression : K.lookup f__law_expression = some ⟨oc__law_expression, od__law_expression, .func (fnOf "_law_expression" "_law_expression" (defArgs s__law_expression) (defBody s__law_expression) (defScope s__law_expression) .none kV__law_expression dc__law_expression pm__law_expression an__law_expression cd__law_expression ct__law_expression), sl__law_expression⟩)
    (e__law_expression : codeIn K cd__law_expression "_law_expression" = true)
    (k__law_expression : keepIn K (.ref f__law_expression) = true)
    (a__law_definitions : nsIn K mainGlobals "_law_definitions" = some (some (.ref f__law_definitions)))
    (l__law_definitions : K.lookup f__law_definitions = some ⟨oc__law_definitions, od__law_definitions, .func (fnOf "_law_definitions" "_law_definitions" (defArgs s__law_definitions) (defBody s__law_definitions) (defScope s__law_definitions) .none kV__law_definitions dc__law_definitions pm__law_definitions an__law_definitions cd__law_definitions ct__law_definitions), sl__law_definitions⟩)
    (e__law_definitions : codeIn K cd__law_definitions "_law_definitions" = true)
    (k__law_definitions : keepIn K (.ref f__law_definitions) = true)
    (a__law_any_fraction : nsIn K mainGlobals "_law_any_fraction" = some (some (.ref f__law_any_fraction)))
    (l__law_any_fraction : K.lookup f__law_any_fraction = some ⟨oc__law_any_fraction, od__law_any_fraction, .func (fnOf "_law_any_fraction" "_law_any_fraction" (defArgs s__law_any_fraction) (defBody s__law_any_fraction) (defScope s__law_any_fraction) .none kV__law_any_fraction dc__law_any_fraction pm__law_any_fraction an__law_any_fraction cd__law_any_fraction ct__law_any_fraction), sl__law_any_fraction⟩)
    (e__law_any_fraction : codeIn K cd__law_any_fraction "_law_any_fraction" = true)
    (k__law_any_fraction : keepIn K (.ref f__law_any_fraction) = true)
    (a__law_times : nsIn K mainGlobals "_law_times" = some (some (.ref f__law_times)))
    (l__law_times : K.lookup f__law_times = some ⟨oc__law_times, od__law_times, .func (fnOf "_law_times" "_law_times" (defArgs s__law_times) (defBody s__law_times) (defScope s__law_times) .none kV__law_times dc__law_times pm__law_times an__law_times cd__law_times ct__law_times), sl__law_times⟩)
    (e__law_times : codeIn K cd__law_times "_law_times" = true)
    (k__law_times : keepIn K (.ref f__law_times) = true)
    (a__law_plus : nsIn K mainGlobals "_law_plus" = some (some (.ref f__law_plus)))
    (l__law_plus : K.lookup f__law_plus = some ⟨oc__law_plus, od__law_plus, .func (fnOf "_law_plus" "_law_plus" (defArgs s__law_plus) (defBody s__law_plus) (defScope s__law_plus) .none kV__law_plus dc__law_plus pm__law_plus an__law_plus cd__law_plus ct__law_plus), sl__law_plus⟩)
    (e__law_plus : codeIn K cd__law_plus "_law_plus" = true)
    (k__law_plus : keepIn K (.ref f__law_plus) = true)
    (a__law_minus : nsIn K mainGlobals "_law_minus" = some (some (.ref f__law_minus)))
    (l__law_minus : K.lookup f__law_minus = some ⟨oc__law_minus, od__law_minus, .func (fnOf "_law_minus" "_law_minus" (defArgs s__law_minus) (defBody s__law_minus) (defScope s__law_minus) .none kV__law_minus dc__law_minus pm__law_minus an__law_minus cd__law_minus ct__law_minus), sl__law_minus⟩)
    (e__law_minus : codeIn K cd__law_minus "_law_minus" = true)
    (k__law_minus : keepIn K (.ref f__law_minus) = true)
    (a__law_less : nsIn K mainGlobals "_law_less" = some (some (.ref f__law_less)))
    (l__law_less : K.lookup f__law_less = some ⟨oc__law_less, od__law_less, .func (fnOf "_law_less" "_law_less" (defArgs s__law_less) (defBody s__law_less) (defScope s__law_less) .none kV__law_less dc__law_less pm__law_less an__law_less cd__law_less ct__law_less), sl__law_less⟩)
    (e__law_less : codeIn K cd__law_less "_law_less" = true)
    (k__law_less : keepIn K (.ref f__law_less) = true)
    (a__law_evaluated : nsIn K mainGlobals "_law_evaluated" = some (some (.ref f__law_evaluated)))
    (l__law_evaluated : K.lookup f__law_evaluated = some ⟨oc__law_evaluated, od__law_evaluated, .func (fnOf "_law_evaluated" "_law_evaluated" (defArgs s__law_evaluated) (defBody s__law_evaluated) (defScope s__law_evaluated) .none kV__law_evaluated dc__law_evaluated pm__law_evaluated an__law_evaluated cd__law_evaluated ct__law_evaluated), sl__law_evaluated⟩)
    (e__law_evaluated : codeIn K cd__law_evaluated "_law_evaluated" = true)
    (k__law_evaluated : keepIn K (.ref f__law_evaluated) = true)
    (a__law_same : nsIn K mainGlobals "_law_same" = some (some (.ref f__law_same)))
    (l__law_same : K.lookup f__law_same = some ⟨oc__law_same, od__law_same, .func (fnOf "_law_same" "_law_same" (defArgs s__law_same) (defBody s__law_same) (defScope s__law_same) .none kV__law_same dc__law_same pm__law_same an__law_same cd__law_same ct__law_same), sl__law_same⟩)
    (e__law_same : codeIn K cd__law_same "_law_same" = true)
    (k__law_same : keepIn K (.ref f__law_same) = true)
    (a_common_divisor : nsIn K mainGlobals "common_divisor" = some (some (.ref f_common_divisor)))
    (l_common_divisor : K.lookup f_common_divisor = some ⟨oc_common_divisor, od_common_divisor, .func (fnOf "common_divisor" "common_divisor" (defArgs s_common_divisor) (defBody s_common_divisor) (defScope s_common_divisor) .none kV_common_divisor dc_common_divisor pm_common_divisor an_common_divisor cd_common_divisor ct_common_divisor), sl_common_divisor⟩)
    (e_common_divisor : codeIn K cd_common_divisor "common_divisor" = true)
    (k_common_divisor : keepIn K (.ref f_common_divisor) = true)
    (a_fraction : nsIn K mainGlobals "fraction" = some (some (.ref f_fraction)))
    (l_fraction : K.lookup f_fraction = some ⟨oc_fraction, od_fraction, .func (fnOf "fraction" "fraction" (defArgs s_fraction) (defBody s_fraction) (defScope s_fraction) (.ref T_fraction) kV_fraction dc_fraction pm_fraction an_fraction cd_fraction ct_fraction), sl_fraction⟩)
    (e_fraction : codeIn K cd_fraction "fraction" = true)
    (k_fraction : keepIn K (.ref f_fraction) = true)
    {tc_fraction : Value} {td_fraction : Option Addr} {ti_fraction : Array Value} {tn_fraction : Nat} {ts_fraction : Array (Option Value)}
    (dt_fraction : K.lookup T_fraction = some ⟨tc_fraction, td_fraction, .seq ti_fraction tn_fraction, ts_fraction⟩)
    (dv_fraction : Vals [V.int 1] ti_fraction.toList)
    (a_multiply : nsIn K mainGlobals "multiply" = some (some (.ref f_multiply)))
    (l_multiply : K.lookup f_multiply = some ⟨oc_multiply, od_multiply, .func (fnOf "multiply" "multiply" (defArgs s_multiply) (defBody s_multiply) (defScope s_multiply) .none kV_multiply dc_multiply pm_multiply an_multiply cd_multiply ct_multiply), sl_multiply⟩)
    (e_multiply : codeIn K cd_multiply "multiply" = true)
    (k_multiply : keepIn K (.ref f_multiply) = true)
    (a_subtract : nsIn K mainGlobals "subtract" = some (some (.ref f_subtract)))
    (l_subtract : K.lookup f_subtract = some ⟨oc_subtract, od_subtract, .func (fnOf "subtract" "subtract" (defArgs s_subtract) (defBody s_subtract) (defScope s_subtract) .none kV_subtract dc_subtract pm_subtract an_subtract cd_subtract ct_subtract), sl_subtract⟩)
    (e_subtract : codeIn K cd_subtract "subtract" = true)
    (k_subtract : keepIn K (.ref f_subtract) = true)
    (a_add : nsIn K mainGlobals "add" = some (some (.ref f_add)))
    (l_add : K.lookup f_add = some ⟨oc_add, od_add, .func (fnOf "add" "add" (defArgs s_add) (defBody s_add) (defScope s_add) .none kV_add dc_add pm_add an_add cd_add ct_add), sl_add⟩)
    (e_add : codeIn K cd_add "add" = true)
    (k_add : keepIn K (.ref f_add) = true)
    (a_is_less : nsIn K mainGlobals "is_less" = some (some (.ref f_is_less)))
    (l_is_less : K.lookup f_is_less = some ⟨oc_is_less, od_is_less, .func (fnOf "is_less" "is_less" (defArgs s_is_less) (defBody s_is_less) (defScope s_is_less) .none kV_is_less dc_is_less pm_is_less an_is_less cd_is_less ct_is_less), sl_is_less⟩)
    (e_is_less : codeIn K cd_is_less "is_less" = true)
    (k_is_less : keepIn K (.ref f_is_less) = true)
    (a_larger : nsIn K mainGlobals "larger" = some (some (.ref f_larger)))
    (l_larger : K.lookup f_larger = some ⟨oc_larger, od_larger, .func (fnOf "larger" "larger" (defArgs s_larger) (defBody s_larger) (defScope s_larger) .none kV_larger dc_larger pm_larger an_larger cd_larger ct_larger), sl_larger⟩)
    (e_larger : codeIn K cd_larger "larger" = true)
    (k_larger : keepIn K (.ref f_larger) = true)
    (a_smaller : nsIn K mainGlobals "smaller" = some (some (.ref f_smaller)))
    (l_smaller : K.lookup f_smaller = some ⟨oc_smaller, od_smaller, .func (fnOf "smaller" "smaller" (defArgs s_smaller) (defBody s_smaller) (defScope s_smaller) .none kV_smaller dc_smaller pm_smaller an_smaller cd_smaller ct_smaller), sl_smaller⟩)
    (e_smaller : codeIn K cd_smaller "smaller" = true)
    (k_smaller : keepIn K (.ref f_smaller) = true)
    (a_value_of : nsIn K mainGlobals "value_of" = some (some (.ref f_value_of)))
    (l_value_of : K.lookup f_value_of = some ⟨oc_value_of, od_value_of, .func (fnOf "value_of" "value_of" (defArgs s_value_of) (defBody s_value_of) (defScope s_value_of) .none kV_value_of dc_value_of pm_value_of an_value_of cd_value_of ct_value_of), sl_value_of⟩)
    (e_value_of : codeIn K cd_value_of "value_of" = true)
    (k_value_of : keepIn K (.ref f_value_of) = true)
    (a_calls_in : nsIn K mainGlobals "calls_in" = some (some (.ref f_calls_in)))
    (l_calls_in : K.lookup f_calls_in = some ⟨oc_calls_in, od_calls_in, .func (fnOf "calls_in" "calls_in" (defArgs s_calls_in) (defBody s_calls_in) (defScope s_calls_in) .none kV_calls_in dc_calls_in pm_calls_in an_calls_in cd_calls_in ct_calls_in), sl_calls_in⟩)
    (e_calls_in : codeIn K cd_calls_in "calls_in" = true)
    (k_calls_in : keepIn K (.ref f_calls_in) = true)
    (a_follow : nsIn K mainGlobals "follow" = some (some (.ref f_follow)))
    (l_follow : K.lookup f_follow = some ⟨oc_follow, od_follow, .func (fnOf "follow" "follow" (defArgs s_follow) (defBody s_follow) (defScope s_follow) .none kV_follow dc_follow pm_follow an_follow cd_follow ct_follow), sl_follow⟩)
    (e_follow : codeIn K cd_follow "follow" = true)
    (k_follow : keepIn K (.ref f_follow) = true)
    (a_checked_table : nsIn K mainGlobals "checked_table" = some (some (.ref f_checked_table)))
    (l_checked_table : K.lookup f_checked_table = some ⟨oc_checked_table, od_checked_table, .func (fnOf "checked_table" "checked_table" (defArgs s_checked_table) (defBody s_checked_table) (defScope s_checked_table) .none kV_checked_table dc_checked_table pm_checked_table an_checked_table cd_checked_table ct_checked_table), sl_checked_table⟩)
    (e_checked_table : codeIn K cd_checked_table "checked_table" = true)
    (k_checked_table : keepIn K (.ref f_checked_table) = true)
    (a_evaluate : nsIn K mainGlobals "evaluate" = some (some (.ref f_evaluate)))
    (l_evaluate : K.lookup f_evaluate = some ⟨oc_evaluate, od_evaluate, .func (fnOf "evaluate" "evaluate" (defArgs s_evaluate) (defBody s_evaluate) (defScope s_evaluate) .none (.ref W_evaluate) dc_evaluate pm_evaluate an_evaluate cd_evaluate ct_evaluate), sl_evaluate⟩)
    (e_evaluate : codeIn K cd_evaluate "evaluate" = true)
    (k_evaluate : keepIn K (.ref f_evaluate) = true)
    (kw0_evaluate : nsIn K W_evaluate "definitions" = some (some (.ref D0)))
    (a_law : nsIn K mainGlobals "law" = some (some (.ref f_law)))
    (l_law : K.lookup f_law = some ⟨oc_law, od_law, .func (fnOf "law" "law" (defArgs s_law) (defBody s_law) (defScope s_law) .none kV_law dc_law pm_law an_law cd_law ct_law), sl_law⟩)
    (e_law : codeIn K cd_law "law" = true)
    (k_law : keepIn K (.ref f_law) = true)
    (z_len : nsIn K mainGlobals "len" = some none)
    (z_list : nsIn K mainGlobals "list" = some none)
    (z_range : nsIn K mainGlobals "range" = some none)
    (z_abs : nsIn K mainGlobals "abs" = some none)
    (z_isinstance : nsIn K mainGlobals "isinstance" = some none)
    (z_tuple : nsIn K mainGlobals "tuple" = some none)
    (z_all : nsIn K mainGlobals "all" = some none)
    (z_zip : nsIn K mainGlobals "zip" = some none)
    (z_bool : nsIn K mainGlobals "bool" = some none)
    (z_int : nsIn K mainGlobals "int" = some none)
    (z_str : nsIn K mainGlobals "str" = some none)
    (z_dict : nsIn K mainGlobals "dict" = some none)
    {ti_D0 : Array Value} {tn_D0 : Nat} {ts_D0 : Array (Option Value)}
    (dt_D0 : K.lookup D0 = some ⟨.type "tuple", none, .seq ti_D0 tn_D0, ts_D0⟩)
    (dv_D0 : Vals [] ti_D0.toList)
    {td_ZERO : Option Addr} {ti_ZERO : Array Value} {tn_ZERO : Nat} {ts_ZERO : Array (Option Value)}
    (q_ZERO : nsIn K mainGlobals "ZERO" = some (some (.ref T_ZERO)))
    (dt_ZERO : K.lookup T_ZERO = some ⟨.type "tuple", td_ZERO, .seq ti_ZERO tn_ZERO, ts_ZERO⟩)
    (dv_ZERO : Vals [V.int 0, V.int 1] ti_ZERO.toList)
    {nm_OutOfRange q_OutOfRange : Str} {bs_OutOfRange bm_OutOfRange sb_OutOfRange : List Value} {sn_OutOfRange : List Str} {ab_OutOfRange : Bool} {co_OutOfRange : Option Bool} {dd_OutOfRange : Option Addr} {k0_OutOfRange k1_OutOfRange k2_OutOfRange k3_OutOfRange k5_OutOfRange : Option Value}
    (a_OutOfRange : nsIn K mainGlobals "OutOfRange" = some (some (.ref C_OutOfRange)))
    (oe_OutOfRange : K.lookup C_OutOfRange = some (excClassObj nm_OutOfRange q_OutOfRange C_OutOfRange N_OutOfRange bs_OutOfRange bm_OutOfRange true sn_OutOfRange sb_OutOfRange ab_OutOfRange co_OutOfRange dd_OutOfRange k0_OutOfRange k1_OutOfRange k2_OutOfRange k3_OutOfRange k5_OutOfRange "ValueError.__new__"))
    (vm_OutOfRange : PySem.HandSPX.refsVE bm_OutOfRange = true)
    (sa_OutOfRange : findIn K (.ref C_OutOfRange) "__setattr__" = some (some (.builtin "object.__setattr__")))
    (eC_OutOfRange : subIn K (.ref C_OutOfRange) (.type "BaseException") = some true)
    (tC_OutOfRange : typeIn K (.ref C_OutOfRange) = some (.type "type"))
    (kC_OutOfRange : keepIn K (.ref C_OutOfRange) = true)
    (ii_OutOfRange : findIn K (.ref C_OutOfRange) "__init__" = some (some (.ref i_OutOfRange)))
    (ti_OutOfRange : typeIn K (.ref i_OutOfRange) = some (.type "function"))
    (tg_OutOfRange : findIn K (.ref C_OutOfRange) "tag" = some none)
    (ga_OutOfRange : findIn K (.ref C_OutOfRange) "__getattribute__" = some (some (.builtin "BaseException.__getattribute__")))
    (gg_OutOfRange : findIn K (.ref C_OutOfRange) "__getattr__" = some none)
    (hd_OutOfRange : hasDictIn K C_OutOfRange = true)
    (li_OutOfRange : K.lookup i_OutOfRange = some ⟨oc_OutOfRange, od_OutOfRange, .func (fnOf "__init__" "OutOfRange.__init__" (defArgs (si_OutOfRange)) (defBody (si_OutOfRange)) (defScope (si_OutOfRange)) .none kV_OutOfRange dc_OutOfRange pm_OutOfRange an_OutOfRange cd_OutOfRange ct_OutOfRange), sl_OutOfRange⟩)
    (ci_OutOfRange : codeIn K cd_OutOfRange "OutOfRange.__init__" = true)
    (ki_OutOfRange : keepIn K (.ref i_OutOfRange) = true)
    (hm : LawGood m_law) : ∃ fd : FuncData, (∀ (s : Shared) (v : Value), BindsTo s fd ⟨[v], []⟩ [("_law_script", v)]) ∧ ∀ base : Heap, K.In base → base.Ns mainGlobals mg → FnOk l.prog w K mg base (L2.CX l.prog w) 19 fa fd ["_law_script"] (spLawC K []) := by
  have e := hfa.symm.trans (PySem.W.mg_of X G a_law)
  cases e
  let M : Mx := ⟨K, mg, fun s => if s = "OutOfRange" then C_OutOfRange else if s = "()" then D0 else 0, [], w⟩
  have hc_OutOfRange : M.ca "OutOfRange" = C_OutOfRange := show (if ("OutOfRange" : Str) = "OutOfRange" then C_OutOfRange else if ("OutOfRange" : Str) = "()" then D0 else 0) = C_OutOfRange from (if_pos rfl)
  have F_OutOfRange := fun_mk (st := si_OutOfRange) li_OutOfRange ci_OutOfRange ki_OutOfRange
  have B_OutOfRange := F_OutOfRange.binds (ps := ["self"]) fun _ _ _ _ _ _ us hl => match us, hl with | [_], _ => rfl
  have hc_D0 : M.ca "()" = D0 := show (if ("()" : Str) = "OutOfRange" then C_OutOfRange else if ("()" : Str) = "()" then D0 else 0) = D0 from ((if_neg (by decide +kernel)).trans (if_pos rfl))
  let T : Tx M w := ⟨rfl,
    PySem.W.mg_none_of X G z_len,
    PySem.W.mg_none_of X G z_list,
    PySem.W.mg_none_of X G z_range,
    PySem.W.mg_none_of X G z_abs,
    PySem.W.mg_none_of X G z_isinstance,
    PySem.W.mg_none_of X G z_tuple,
    PySem.W.mg_none_of X G z_all,
    PySem.W.mg_none_of X G z_zip,
    PySem.W.mg_none_of X G z_bool,
    PySem.W.mg_none_of X G z_int,
    PySem.W.mg_none_of X G z_str,
    PySem.W.mg_none_of X G z_dict,
    KCon.tup (PySem.W.mg_of X G q_ZERO) dt_ZERO dv_ZERO (by decide) (fun _ => (.cons (.int _) (.cons (.int _) .nil))),
    excAt C_OutOfRange hc_OutOfRange i_OutOfRange _ (PySem.W.mg_of X G a_OutOfRange) ⟨⟨nm_OutOfRange, q_OutOfRange, N_OutOfRange, bs_OutOfRange, bm_OutOfRange, sn_OutOfRange, sb_OutOfRange, ab_OutOfRange, co_OutOfRange, dd_OutOfRange, k0_OutOfRange, k1_OutOfRange, k2_OutOfRange, k3_OutOfRange, k5_OutOfRange, oe_OutOfRange, vm_OutOfRange⟩, sa_OutOfRange, eC_OutOfRange, tC_OutOfRange, kC_OutOfRange⟩ ii_OutOfRange ti_OutOfRange tg_OutOfRange (fun ws f hf => by rw [List.mem_singleton.mp hf]; exact tg_OutOfRange) ⟨ga_OutOfRange, gg_OutOfRange, eC_OutOfRange, hd_OutOfRange⟩ B_OutOfRange (fun P w base => init1 F_OutOfRange sci_OutOfRange rfl (by unfold Vis; decide +kernel)),
    fun F => by rw [hc_D0]; exact emp_rep dt_D0 dv_D0 F⟩
  have F__law_begin := fun_mk (st := s__law_begin) l__law_begin e__law_begin k__law_begin
  have B__law_begin := F__law_begin.binds (ps := ["_law_script"]) fun _ _ _ _ _ _ us hl => match us, hl with | [_], _ => rfl
  have F__law_draw := fun_mk (st := s__law_draw) l__law_draw e__law_draw k__law_draw
  have B__law_draw := F__law_draw.binds (ps := ["_law_rng", "_law_many"]) fun _ _ _ _ _ _ us hl => match us, hl with | [_, _], _ => rfl
  have F__law_pick := fun_mk (st := s__law_pick) l__law_pick e__law_pick k__law_pick
  have B__law_pick := F__law_pick.binds (ps := ["_law_rng", "_law_items"]) fun _ _ _ _ _ _ us hl => match us, hl with | [_, _], _ => rfl
  have F__law_letters := fun_mk (st := s__law_letters) l__law_letters e__law_letters k__law_letters
  have B__law_letters := F__law_letters.binds (ps := []) fun _ _ _ _ _ _ us hl => match us, hl with | [], _ => rfl
  have F__law_names := fun_mk (st := s__law_names) l__law_names e__law_names k__law_names
  have B__law_names := F__law_names.binds (ps := ["_law_rng", "_law_many"]) fun _ _ _ _ _ _ us hl => match us, hl with | [_, _], _ => rfl
  have F__law_lowest := fun_mk (st := s__law_lowest) l__law_lowest e__law_lowest k__law_lowest
  have B__law_lowest := F__law_lowest.binds (ps := ["_law_above", "_law_below"]) fun _ _ _ _ _ _ us hl => match us, hl with | [_, _], _ => rfl
  have F__law_text_fraction := fun_mk (st := s__law_text_fraction) l__law_text_fraction e__law_text_fraction k__law_text_fraction
  have B__law_text_fraction := F__law_text_fraction.binds (ps := ["_law_rng"]) fun _ _ _ _ _ _ us hl => match us, hl with | [_], _ => rfl
  have F__law_expression := fun_mk (st := s__law_expression) l__law_expression e__law_expression k__law_expression
  have B__law_expression := F__law_expression.binds (ps := ["_law_rng", "_law_names_here", "_law_depth"]) fun _ _ _ _ _ _ us hl => match us, hl with | [_, _, _], _ => rfl
  have F__law_definitions := fun_mk (st := s__law_definitions) l__law_definitions e__law_definitions k__law_definitions
  have B__law_definitions := F__law_definitions.binds (ps := ["_law_rng", "_law_names_here"]) fun _ _ _ _ _ _ us hl => match us, hl with | [_, _], _ => rfl
  have F__law_any_fraction := fun_mk (st := s__law_any_fraction) l__law_any_fraction e__law_any_fraction k__law_any_fraction
  have B__law_any_fraction := F__law_any_fraction.binds (ps := ["_law_rng", "_law_most"]) fun _ _ _ _ _ _ us hl => match us, hl with | [_, _], _ => rfl
  have F__law_times := fun_mk (st := s__law_times) l__law_times e__law_times k__law_times
  have B__law_times := F__law_times.binds (ps := ["_law_one", "_law_other"]) fun _ _ _ _ _ _ us hl => match us, hl with | [_, _], _ => rfl
  have F__law_plus := fun_mk (st := s__law_plus) l__law_plus e__law_plus k__law_plus
  have B__law_plus := F__law_plus.binds (ps := ["_law_one", "_law_other"]) fun _ _ _ _ _ _ us hl => match us, hl with | [_, _], _ => rfl
  have F__law_minus := fun_mk (st := s__law_minus) l__law_minus e__law_minus k__law_minus
  have B__law_minus := F__law_minus.binds (ps := ["_law_one", "_law_other"]) fun _ _ _ _ _ _ us hl => match us, hl with | [_, _], _ => rfl
  have F__law_less := fun_mk (st := s__law_less) l__law_less e__law_less k__law_less
  have B__law_less := F__law_less.binds (ps := ["_law_one", "_law_other"]) fun _ _ _ _ _ _ us hl => match us, hl with | [_, _], _ => rfl
  have F__law_evaluated := fun_mk (st := s__law_evaluated) l__law_evaluated e__law_evaluated k__law_evaluated
  have B__law_evaluated := F__law_evaluated.binds (ps := ["_law_expression_here", "_law_number", "_law_table"]) fun _ _ _ _ _ _ us hl => match us, hl with | [_, _, _], _ => rfl
  have F__law_same := fun_mk (st := s__law_same) l__law_same e__law_same k__law_same
  have B__law_same := F__law_same.binds (ps := ["_law_found", "_law_due"]) fun _ _ _ _ _ _ us hl => match us, hl with | [_, _], _ => rfl
  have F_common_divisor := fun_mk (st := s_common_divisor) l_common_divisor e_common_divisor k_common_divisor
  have B_common_divisor := F_common_divisor.binds (ps := ["one", "other"]) fun _ _ _ _ _ _ us hl => match us, hl with | [_, _], _ => rfl
  have F_fraction : FunD K "fraction" "fraction" (defArgs s_fraction) (defBody s_fraction) (defScope s_fraction) [V.int 1] [] f_fraction (PySem.W.fnOf "fraction" "fraction" (defArgs s_fraction) (defBody s_fraction) (defScope s_fraction) (.ref T_fraction) kV_fraction dc_fraction pm_fraction an_fraction cd_fraction ct_fraction) := ⟨⟨_, _, _, _, _, _, _, _, _, _, rfl, l_fraction, e_fraction, .inr ⟨by simp, T_fraction, _, ti_fraction.toList, tn_fraction, rfl, dt_fraction, by simp, dv_fraction⟩, .inl rfl⟩, k_fraction⟩
  have B_fraction : Binds K (PySem.W.fnOf "fraction" "fraction" (defArgs s_fraction) (defBody s_fraction) (defScope s_fraction) (.ref T_fraction) kV_fraction dc_fraction pm_fraction an_fraction cd_fraction ct_fraction) ["numerator", "denominator"] [] := by
    obtain ⟨ds, hd, hb⟩ := F_fraction.binds1 (ps := ["numerator", "denominator"]) 2 1 (by simp) rfl fun _ _ _ _ _ _ _ us its hl hi => match us, its, hl, hi with | [_, _], [_], _, _ => ⟨_, rfl, rfl⟩
    cases hd
    exact hb
  have BD_fraction : ∃ dus, Vals [V.int 1] dus ∧ Binds K (PySem.W.fnOf "fraction" "fraction" (defArgs s_fraction) (defBody s_fraction) (defScope s_fraction) (.ref T_fraction) kV_fraction dc_fraction pm_fraction an_fraction cd_fraction ct_fraction) ["numerator", "denominator"] dus := F_fraction.binds1 (ps := ["numerator", "denominator"]) 1 0 (by simp) rfl fun _ _ _ _ _ _ _ us its hl hi => match us, its, hl, hi with | [_], [_], _, _ => ⟨_, rfl, rfl⟩
  have F_multiply := fun_mk (st := s_multiply) l_multiply e_multiply k_multiply
  have B_multiply := F_multiply.binds (ps := ["one", "other"]) fun _ _ _ _ _ _ us hl => match us, hl with | [_, _], _ => rfl
  have F_subtract := fun_mk (st := s_subtract) l_subtract e_subtract k_subtract
  have B_subtract := F_subtract.binds (ps := ["one", "other"]) fun _ _ _ _ _ _ us hl => match us, hl with | [_, _], _ => rfl
  have F_add := fun_mk (st := s_add) l_add e_add k_add
  have B_add := F_add.binds (ps := ["one", "other"]) fun _ _ _ _ _ _ us hl => match us, hl with | [_, _], _ => rfl
  have F_is_less := fun_mk (st := s_is_less) l_is_less e_is_less k_is_less
  have B_is_less := F_is_less.binds (ps := ["one", "other"]) fun _ _ _ _ _ _ us hl => match us, hl with | [_, _], _ => rfl
  have F_larger := fun_mk (st := s_larger) l_larger e_larger k_larger
  have B_larger := F_larger.binds (ps := ["one", "other"]) fun _ _ _ _ _ _ us hl => match us, hl with | [_, _], _ => rfl
  have F_smaller := fun_mk (st := s_smaller) l_smaller e_smaller k_smaller
  have B_smaller := F_smaller.binds (ps := ["one", "other"]) fun _ _ _ _ _ _ us hl => match us, hl with | [_, _], _ => rfl
  have F_value_of := fun_mk (st := s_value_of) l_value_of e_value_of k_value_of
  have B_value_of := F_value_of.binds (ps := ["expression", "number", "table", "known"]) fun _ _ _ _ _ _ us hl => match us, hl with | [_, _, _, _], _ => rfl
  have F_calls_in := fun_mk (st := s_calls_in) l_calls_in e_calls_in k_calls_in
  have B_calls_in := F_calls_in.binds (ps := ["expression"]) fun _ _ _ _ _ _ us hl => match us, hl with | [_], _ => rfl
  have F_follow := fun_mk (st := s_follow) l_follow e_follow k_follow
  have B_follow := F_follow.binds (ps := ["name", "table", "path", "finished"]) fun _ _ _ _ _ _ us hl => match us, hl with | [_, _, _, _], _ => rfl
  have F_checked_table := fun_mk (st := s_checked_table) l_checked_table e_checked_table k_checked_table
  have B_checked_table := F_checked_table.binds (ps := ["expression", "definitions"]) fun _ _ _ _ _ _ us hl => match us, hl with | [_, _], _ => rfl
  have F_evaluate : FunD K "evaluate" "evaluate" (defArgs s_evaluate) (defBody s_evaluate) (defScope s_evaluate) [] [("definitions", V.ref (M.ca "()"))] f_evaluate (PySem.W.fnOf "evaluate" "evaluate" (defArgs s_evaluate) (defBody s_evaluate) (defScope s_evaluate) .none (.ref W_evaluate) dc_evaluate pm_evaluate an_evaluate cd_evaluate ct_evaluate) := ⟨⟨_, _, _, _, _, _, _, _, _, _, rfl, l_evaluate, e_evaluate, .inl ⟨rfl, rfl⟩, .inr ⟨W_evaluate, rfl, by
    intro q hq
    simp only [List.mem_cons, List.not_mem_nil, or_false] at hq
    rcases hq with rfl
    · exact ⟨_, kw0_evaluate, by rw [hc_D0]; exact rfl⟩⟩⟩, k_evaluate⟩
  have F_law := fun_mk (st := s_law) l_law e_law k_law
  have B_law := F_law.binds (ps := ["_law_script"]) fun _ _ _ _ _ _ us hl => match us, hl with | [_], _ => rfl
  let A : Ax M := ⟨⟨f__law_begin, _, PySem.W.mg_of X G a__law_begin, k__law_begin, B__law_begin, F__law_begin⟩,
    ⟨f__law_draw, _, PySem.W.mg_of X G a__law_draw, k__law_draw, B__law_draw, F__law_draw⟩,
    ⟨f__law_pick, _, PySem.W.mg_of X G a__law_pick, k__law_pick, B__law_pick, F__law_pick⟩,
    ⟨f__law_letters, _, PySem.W.mg_of X G a__law_letters, k__law_letters, B__law_letters, F__law_letters⟩,
    ⟨f__law_names, _, PySem.W.mg_of X G a__law_names, k__law_names, B__law_names, F__law_names⟩,
    ⟨f__law_lowest, _, PySem.W.mg_of X G a__law_lowest, k__law_lowest, B__law_lowest, F__law_lowest⟩,
    ⟨f__law_text_fraction, _, PySem.W.mg_of X G a__law_text_fraction, k__law_text_fraction, B__law_text_fraction, F__law_text_fraction⟩,
    ⟨f__law_expression, _, PySem.W.mg_of X G a__law_expression, k__law_expression, B__law_expression, F__law_expression⟩,
    ⟨f__law_definitions, _, PySem.W.mg_of X G a__law_definitions, k__law_definitions, B__law_definitions, F__law_definitions⟩,
    ⟨f__law_any_fraction, _, PySem.W.mg_of X G a__law_any_fraction, k__law_any_fraction, B__law_any_fraction, F__law_any_fraction⟩,
    ⟨f__law_times, _, PySem.W.mg_of X G a__law_times, k__law_times, B__law_times, F__law_times⟩,
    ⟨f__law_plus, _, PySem.W.mg_of X G a__law_plus, k__law_plus, B__law_plus, F__law_plus⟩,
    ⟨f__law_minus, _, PySem.W.mg_of X G a__law_minus, k__law_minus, B__law_minus, F__law_minus⟩,
    ⟨f__law_less, _, PySem.W.mg_of X G a__law_less, k__law_less, B__law_less, F__law_less⟩,
    ⟨f__law_evaluated, _, PySem.W.mg_of X G a__law_evaluated, k__law_evaluated, B__law_evaluated, F__law_evaluated⟩,
    ⟨f__law_same, _, PySem.W.mg_of X G a__law_same, k__law_same, B__law_same, F__law_same⟩,
    ⟨f_common_divisor, _, PySem.W.mg_of X G a_common_divisor, k_common_divisor, B_common_divisor, F_common_divisor⟩,
    ⟨f_fraction, _, PySem.W.mg_of X G a_fraction, k_fraction, B_fraction, BD_fraction, F_fraction⟩,
    ⟨f_multiply, _, PySem.W.mg_of X G a_multiply, k_multiply, B_multiply, F_multiply⟩,
    ⟨f_subtract, _, PySem.W.mg_of X G a_subtract, k_subtract, B_subtract, F_subtract⟩,
    ⟨f_add, _, PySem.W.mg_of X G a_add, k_add, B_add, F_add⟩,
    ⟨f_is_less, _, PySem.W.mg_of X G a_is_less, k_is_less, B_is_less, F_is_less⟩,
    ⟨f_larger, _, PySem.W.mg_of X G a_larger, k_larger, B_larger, F_larger⟩,
    ⟨f_smaller, _, PySem.W.mg_of X G a_smaller, k_smaller, B_smaller, F_smaller⟩,
    ⟨f_value_of, _, PySem.W.mg_of X G a_value_of, k_value_of, B_value_of, F_value_of⟩,
    ⟨f_calls_in, _, PySem.W.mg_of X G a_calls_in, k_calls_in, B_calls_in, F_calls_in⟩,
    ⟨f_follow, _, PySem.W.mg_of X G a_follow, k_follow, B_follow, F_follow⟩,
    ⟨f_checked_table, _, PySem.W.mg_of X G a_checked_table, k_checked_table, B_checked_table, F_checked_table⟩,
    ⟨f_evaluate, _, PySem.W.mg_of X G a_evaluate, k_evaluate, F_evaluate⟩,
    ⟨fa, _, PySem.W.mg_of X G a_law, k_law, B_law, F_law⟩⟩
  exact ⟨PySem.W.fnOf "law" "law" (defArgs s_law) (defBody s_law) (defScope s_law) .none kV_law dc_law pm_law an_law cd_law ct_law, fun s v => .of_eq rfl, fun base _ _ => fn_law (M := M) hm (all_law (P := l.prog) (w := w) (base := base) T A).ok⟩
end
end Kx
open PySem PySem.W PyProof.Rows
theorem PySem.W.Fast.tw10732252008320869717 : True := True.intro
theorem PySem.W.Fast.tw15353799415382935505 : True := True.intro
theorem PySem.W.Fast.tw6483251437146538691 : True := True.intro
theorem PySem.W.Fast.tw3466355374656709262 : True := True.intro
theorem PySem.W.Fast.tw9056289178189171480 : True := True.intro
theorem PySem.W.Fast.tw4834395035682321857 : True := True.intro
theorem PySem.W.Fast.tw5237851280902340097 : True := True.intro
theorem PySem.W.Fast.tw6792409272943384093 : True := True.intro
theorem PySem.W.Fast.tw7667825751161331270 : True := True.intro
theorem PySem.W.Fast.tw3304878185849989520 : True := True.intro
theorem PySem.W.Fast.tw15036446555231160633 : True := True.intro
set_option maxRecDepth 100000 in
set_option maxHeartbeats 0 in
theorem PySem.Challenge.cw_earlywrite_k18_values_of_expressions_holds : PySem.Challenge.rw_earlywrite_k18_values_of_expressions.Holds := by
  w_on; o_law; k_head; (case hw => w_witness2)
  k_fill
  refine DL.walkD (l := PySem.Challenge.rw_earlywrite_k18_values_of_expressions) (k := 19) ⟨rfl, by decide, by decide⟩ rfl rfl (fun w h Y => PySem.W.kIn_of Y) ?F
  case F =>
    intro w mg fa h KX G hmg
    refine' Kx.all_mk KX G hmg ?a__law_begin ?l__law_begin ?e__law_begin ?k__law_begin ?a__law_draw ?l__law_draw ?e__law_draw ?k__law_draw ?a__law_pick ?l__law_pick ?e__law_pick ?k__law_pick ?a__law_letters ?l__law_letters ?e__law_letters ?k__law_letters ?a__law_names ?l__law_names ?e__law_names ?k__law_names ?a__law_lowest ?l__law_lowest ?e__law_lowest ?k__law_lowest ?a__law_text_fraction ?l__law_text_fraction ?e__law_text_fraction ?k__law_text_fraction ?a__law_expression ?l__law_expression ?e__law_expression ?k__law_expression ?a__law_definitions ?l__law_definitions ?e__law_definitions ?k__law_definitions ?a__law_any_fraction ?l__law_any_fraction ?e__law_any_fraction ?k__law_any_fraction ?a__law_times ?l__law_times ?e__law_times ?k__law_times ?a__law_plus ?l__law_plus ?e__law_plus ?k__law_plus ?a__law_minus ?l__law_minus ?e__law_minus ?k__law_minus ?a__law_less ?l__law_less ?e__law_less ?k__law_less ?a__law_evaluated ?l__law_evaluated ?e__law_evaluated ?k__law_evaluated ?a__law_same ?l__law_same ?e__law_same ?k__law_same ?a_common_divisor ?l_common_divisor ?e_common_divisor ?k_common_divisor ?a_fraction ?l_fraction ?e_fraction ?k_fraction ?dt_fraction ?dv_fraction ?a_multiply ?l_multiply ?e_multiply ?k_multiply ?a_subtract ?l_subtract ?e_subtract ?k_subtract ?a_add ?l_add ?e_add ?k_add ?a_is_less ?l_is_less ?e_is_less ?k_is_less ?a_larger ?l_larger ?e_larger ?k_larger ?a_smaller ?l_smaller ?e_smaller ?k_smaller ?a_value_of ?l_value_of ?e_value_of ?k_value_of ?a_calls_in ?l_calls_in ?e_calls_in ?k_calls_in ?a_follow ?l_follow ?e_follow ?k_follow ?a_checked_table ?l_checked_table ?e_checked_table ?k_checked_table ?a_evaluate ?l_evaluate ?e_evaluate ?k_evaluate ?kw0_evaluate ?a_law ?l_law ?e_law ?k_law ?z_len ?z_list ?z_range ?z_abs ?z_isinstance ?z_tuple ?z_all ?z_zip ?z_bool ?z_int ?z_str ?z_dict ?dt_D0 ?dv_D0 ?q_ZERO ?dt_ZERO ?dv_ZERO ?a_OutOfRange ?oe_OutOfRange ?vm_OutOfRange ?sa_OutOfRange ?eC_OutOfRange ?tC_OutOfRange ?kC_OutOfRange ?ii_OutOfRange ?ti_OutOfRange ?tg_OutOfRange ?ga_OutOfRange ?gg_OutOfRange ?hd_OutOfRange ?li_OutOfRange ?ci_OutOfRange ?ki_OutOfRange Kx.law_good
    (case a__law_begin => k_is)
    (case l__law_begin => k_is)
    (case e__law_begin => k_is)
    (case k__law_begin => k_is)
    (case a__law_draw => k_is)
    (case l__law_draw => k_is)
    (case e__law_draw => k_is)
    (case k__law_draw => k_is)
    (case a__law_pick => k_is)
    (case l__law_pick => k_is)
    (case e__law_pick => k_is)
    (case k__law_pick => k_is)
    (case a__law_letters => k_is)
    (case l__law_letters => k_is)
    (case e__law_letters => k_is)
    (case k__law_letters => k_is)
    (case a__law_names => k_is)
    (case l__law_names => k_is)
    (case e__law_names => k_is)
    (case k__law_names => k_is)
    (case a__law_lowest => k_is)
    (case l__law_lowest => k_is)
    (case e__law_lowest => k_is)
    (case k__law_lowest => k_is)
    (case a__law_text_fraction => k_is)
    (case l__law_text_fraction => k_is)
    (case e__law_text_fraction => k_is)
    (case k__law_text_fraction => k_is)
    (case a__law_expression => k_is)
    (case l__law_expression => k_is)
    (case e__law_expression => k_is)
    (case k__law_expression => k_is)
    (case a__law_definitions => k_is)
    (case l__law_definitions => k_is)
    (case e__law_definitions => k_is)
    (case k__law_definitions => k_is)
    (case a__law_any_fraction => k_is)
    (case l__law_any_fraction => k_is)
    (case e__law_any_fraction => k_is)
    (case k__law_any_fraction => k_is)
    (case a__law_times => k_is)
    (case l__law_times => k_is)
    (case e__law_times => k_is)
    (case k__law_times => k_is)
    (case a__law_plus => k_is)
    (case l__law_plus => k_is)
    (case e__law_plus => k_is)
    (case k__law_plus => k_is)
    (case a__law_minus => k_is)
    (case l__law_minus => k_is)
    (case e__law_minus => k_is)
    (case k__law_minus => k_is)
    (case a__law_less => k_is)
    (case l__law_less => k_is)
    (case e__law_less => k_is)
    (case k__law_less => k_is)
    (case a__law_evaluated => k_is)
    (case l__law_evaluated => k_is)
    (case e__law_evaluated => k_is)
    (case k__law_evaluated => k_is)
    (case a__law_same => k_is)
    (case l__law_same => k_is)
    (case e__law_same => k_is)
    (case k__law_same => k_is)
    (case a_common_divisor => k_is)
    (case l_common_divisor => k_is)
    (case e_common_divisor => k_is)
    (case k_common_divisor => k_is)
    (case a_fraction => k_is)
    (case l_fraction => k_is)
    (case e_fraction => k_is)
    (case k_fraction => k_is)
    (case dt_fraction => k_is)
    (case dv_fraction => exact (.cons ⟨_, rfl⟩ .nil))
    (case a_multiply => k_is)
    (case l_multiply => k_is)
    (case e_multiply => k_is)
    (case k_multiply => k_is)
    (case a_subtract => k_is)
    (case l_subtract => k_is)
    (case e_subtract => k_is)
    (case k_subtract => k_is)
    (case a_add => k_is)
    (case l_add => k_is)
    (case e_add => k_is)
    (case k_add => k_is)
    (case a_is_less => k_is)
    (case l_is_less => k_is)
    (case e_is_less => k_is)
    (case k_is_less => k_is)
    (case a_larger => k_is)
    (case l_larger => k_is)
    (case e_larger => k_is)
    (case k_larger => k_is)
    (case a_smaller => k_is)
    (case l_smaller => k_is)
    (case e_smaller => k_is)
    (case k_smaller => k_is)
    (case a_value_of => k_is)
    (case l_value_of => k_is)
    (case e_value_of => k_is)
    (case k_value_of => k_is)
    (case a_calls_in => k_is)
    (case l_calls_in => k_is)
    (case e_calls_in => k_is)
    (case k_calls_in => k_is)
    (case a_follow => k_is)
    (case l_follow => k_is)
    (case e_follow => k_is)
    (case k_follow => k_is)
    (case a_checked_table => k_is)
    (case l_checked_table => k_is)
    (case e_checked_table => k_is)
    (case k_checked_table => k_is)
    (case a_evaluate => k_is)
    (case l_evaluate => k_is)
    (case e_evaluate => k_is)
    (case k_evaluate => k_is)
    (case kw0_evaluate => k_is)
    (case a_law => k_is)
    (case l_law => k_is)
    (case e_law => k_is)
    (case k_law => k_is)
    (case z_len => k_is)
    (case z_list => k_is)
    (case z_range => k_is)
    (case z_abs => k_is)
    (case z_isinstance => k_is)
    (case z_tuple => k_is)
    (case z_all => k_is)
    (case z_zip => k_is)
    (case z_bool => k_is)
    (case z_int => k_is)
    (case z_str => k_is)
    (case z_dict => k_is)
    (case dt_D0 => k_is)
    (case dv_D0 => exact .nil)
    (case q_ZERO => k_is)
    (case dt_ZERO => k_is)
    (case dv_ZERO => exact (.cons ⟨_, rfl⟩ (.cons ⟨_, rfl⟩ .nil)))
    (case a_OutOfRange => k_is)
    (case oe_OutOfRange => k_is)
    (case vm_OutOfRange => decide +kernel)
    (case sa_OutOfRange => k_is)
    (case eC_OutOfRange => k_is)
    (case tC_OutOfRange => k_is)
    (case kC_OutOfRange => k_is)
    (case ii_OutOfRange => k_is)
    (case ti_OutOfRange => k_is)
    (case tg_OutOfRange => k_is)
    (case ga_OutOfRange => k_is)
    (case gg_OutOfRange => k_is)
    (case hd_OutOfRange => k_is)
    (case li_OutOfRange => k_is)
    (case ci_OutOfRange => k_is)
    (case ki_OutOfRange => k_is)
#print axioms PySem.Challenge.cw_earlywrite_k18_values_of_expressions_holds

