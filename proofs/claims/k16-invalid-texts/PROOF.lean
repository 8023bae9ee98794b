import PyProof.Rows.All
import Wide.All
import OpenK.AllK
import Wide.FinOn
import HandS.ForMost
import HandS.ExcInit
import HandS.WordsExc
import HandS.Lambda
import HandS.Wide
import HandS.ExcField
import KE.KDictKeyed
import KE.GoesDict
import HandS.TupAny
import HandS.Deep
import HandS.IsInst
import HandS.Flow
import HandS.CallSlots
import HandS.FStr
import HandS.Zip
import HandS.Defaults
import HandS.More
import HandS.Text
import HandS.Ends
import KE.KTryMore
import HandS.HotCalls
import HandS.EndOwn
import KE.KNestM
import KE.KUnpackStar
import HandS.SortInts
import HandS.TupMul
import HandS.Conv
import HandS.OwnEq
import OpenK.KOps
import HandS.Codes
import KE.KDictZip
import HandS.Zip0
import HandS.ListItems
import KE.GoesMore
import HandS.Style
import HandS.IterVal
import HandS.SetBool
import HandS.Strs
import KE.KIndexOf
import HandS.SetFor
import PyProof.NeKinds
import HandS.SetTxt0
import PyProof.Rows.SortShellAny
import HandS.Iter
import KE.KDictDisplayH
import HandS.MakeKwOnly
import PyProof.ReprRoads
import PyProof.ReprText
import PyProof.ReprBulk
import PyProof.Rows.RegStrFacts
import HandS.TryOnly
import KE.KExcInit
import PySem.Challenge.RW_earlywrite_k16_invalid_texts_of_expressi
/- part -/
set_option Elab.async false
set_option linter.all false
set_option maxRecDepth 100000
set_option maxHeartbeats 4000000
namespace DL
open PySem PySem.Spec PyProof.Rows L2
inductive Xk where
  | dct | oth (n : Nat)
  deriving DecidableEq
inductive D where
  | non | bl (b : Bool) | int (i : Int) | str (s : Str)
  | tup (xs : List D) | lst (xs : List D) | scr (ns : List Int)
  /-- a list that slot n of some frame has for its own and lends -/
  | tl (n : Nat) (xs : List D)
  | obj (c : Str) (fs : List (Str × D)) | fn (x : Str) | exc (c : Str) (fs : List (Str × D))
  /-- a dict: its keys, its values -/
  | xt (k : Xk) (ks vs : List D)
structure Mx where
  K : PySem.W.Frag
  mg : Str → Option Value
  ca : Str → Addr
  T : List (Addr × Str)
  w : World
def XcOk (K : PySem.W.Frag) (C : Addr) (ns : List Str) : Prop := XfC K C ∧ ∀ f ∈ ns, PySem.W.findIn K (.ref C) f = some none
def ObOk (K : PySem.W.Frag) (C : Addr) (ns : List Str) : Prop := Cls K C ∧ ∀ f ∈ ns, NoAttr K C f
def xo (a : Addr) (oe : Obj) : HO := .ext fun h => h.get? a = some oe
def o0 : Obj := { cls := .none, data := .fields #[] }
def bw (n : Nat) (vs : List V) : HO := .frz o0 (.frz o0 (.tup (.int n :: vs)))
def NdF (F : Hp) (c : Str) (vs : List (Str × V)) : Prop := c = "DigitSet" → ∀ v : V, vs.lookup ("digits" : Str) = some v → ∃ (p : Addr) (od : Obj) (us : List V), v = V.ref p ∧ F p = some (.frz od (.tup us)) ∧ od.dict = none
mutual
def nk : D → NestedKey
  | .int i => .num i
  | .str x => .text x
  | .tup ds => .tup (nks ds)
  | _ => .none
def nks : List D → List NestedKey
  | [] => []
  | d :: r => nk d :: nks r
end
mutual
def kOk : Nat → D → Bool
  | _, .int _ => true
  | _, .str _ => true
  | _, .non => true
  | 0, _ => false
  | n + 1, .tup ds => kOks n ds
  | _, _ => false
def kOks : Nat → List D → Bool
  | _, [] => true
  | n, d :: r => kOk n d && kOks n r
end
def isTupD : D → Bool
  | .tup _ => true
  | _ => false
def leafD : D → Bool
  | .int _ => true
  | .str _ => true
  | _ => false
def KsOk (ks : List D) : Prop := (ks.map nk).Nodup ∧ (∀ k ∈ ks, kOk 8 k = true) ∧ ((∀ k ∈ ks, leafD k = true) ∨ ∀ k ∈ ks, isTupD k = true)
def entL (w : World) : List D → List Value → List Value → List DictEntry
  | k :: ks, u :: us, x :: xs => ⟨(nk k).hash w, u, x⟩ :: entL w ks us xs
  | _, _, _ => []
def DctF (w : World) (a : Addr) (o : Obj) (us ws : List V) (ks : List D) : Prop :=
  (a == sysModules) = false ∧ KsOk ks ∧ us.length = ks.length ∧ ws.length = ks.length ∧ ks.length ≤ 1000000 ∧ ∃ (xs ys : List Value) (ep : Nat), Vals us xs ∧ Vals ws ys ∧ o.ExactDict ∧ o.data = .dict (entL w ks xs ys).toArray ep
def DctP (w : World) (a : Addr × Obj) (us ws : List V) (ks vs : List D) (h : Heap) : Prop := h.get? a.1 = some a.2 ∧ DctF w a.1 a.2 us ws ks
def XtP (w : World) (k : Xk) (a : Addr × Obj) (us ws : List V) (ks vs : List D) (h : Heap) : Prop := match k with
  | .dct => DctP w a us ws ks vs h
  | .oth _ => False
abbrev XtO (M : Mx) (k : Xk) (a : Addr × Obj) (us ws : List V) (ks vs : List D) : HO := .ext (XtP M.w k a us ws ks vs)
mutual
inductive Rep (M : Mx) (F : Hp) : V → D → Prop
  | non : Rep M F .non .non
  | bl (b : Bool) : Rep M F (.bl b) (.bl b)
  | int (i : Int) : Rep M F (.int i) (.int i)
  | str (x : Str) : Rep M F (.str x) (.str x)
  | tup {a : Addr} {vs : List V} {ds : List D} : SqT M.K F a vs → Reps M F vs ds → Rep M F (.ref a) (.tup ds)
  | lst {a : Addr} {vs : List V} {ds : List D} : F a = some (.lst vs) → Reps M F vs ds → Rep M F (.ref a) (.lst ds)
  | scr {a : Addr} {ns : List Int} : SqL M.K F a (ns.map V.int) → Rep M F (.ref a) (.scr ns)
  | obj {a dx : Addr} {c : Str} {vs : List (Str × V)} {fs : List (Str × D)} : F a = some (.ins (M.ca c) dx vs) → RepF M F vs fs → ObOk M.K (M.ca c) (fs.map (·.1)) → NdF F c vs → Rep M F (.ref a) (.obj c fs)
  | fn {a : Addr} {x : Str} : M.mg x = some (.ref a) → Rep M F (.ref a) (.fn x)
  | tl {a : Addr} {n : Nat} {vs : List V} {ds : List D} : F a = some (bw n vs) → Reps M F vs ds → Rep M F (.ref a) (.tl n ds)
  | exc {a dx : Addr} {oe : Obj} {c : Str} {vs : List (Str × V)} {fs : List (Str × D)} : F a = some (xo a oe) → Zc (.ref (M.ca c)) (some dx) oe → (∃ ws, oe.data = .fields ws) → F dx = some (.xd vs) → RepF M F vs fs → XcOk M.K (M.ca c) (fs.map (·.1)) → Rep M F (.ref a) (.exc c fs)
  | xt {a : Addr} {a' : Addr × Obj} {k : Xk} {us ws : List V} {ks vs : List D} : F a = some (XtO M k a' us ws ks vs) → Reps M F us ks → Reps M F ws vs → Rep M F (.ref a) (.xt k ks vs)
inductive Reps (M : Mx) (F : Hp) : List V → List D → Prop
  | nil : Reps M F [] []
  | cons {v : V} {vs : List V} {d : D} {ds : List D} : Rep M F v d → Reps M F vs ds → Reps M F (v :: vs) (d :: ds)
inductive RepF (M : Mx) (F : Hp) : List (Str × V) → List (Str × D) → Prop
  | nil : RepF M F [] []
  | cons {f : Str} {v : V} {vs : List (Str × V)} {d : D} {fs : List (Str × D)} : Rep M F v d → RepF M F vs fs → RepF M F ((f, v) :: vs) ((f, d) :: fs)
end
theorem same_rd {H H' : Hp} {a : Addr} {u : HO} (e : Same H H') (h : Rd H a u) : Rd H' a u := by
  rcases h with h | ⟨o, h⟩
  · exact .inl (e _ _ h)
  · exact .inr ⟨o, e _ _ h⟩
theorem same_sqT {K : PySem.W.Frag} {H H' : Hp} {a : Addr} {xs : List V} (e : Same H H') (h : SqT K H a xs) : SqT K H' a xs := by
  rcases h with h | h
  · exact .inl (same_rd e h)
  · exact .inr h
theorem same_sqL {K : PySem.W.Frag} {H H' : Hp} {a : Addr} {xs : List V} (e : Same H H') (h : SqL K H a xs) : SqL K H' a xs := by
  rcases h with h | h
  · exact .inl (same_rd e h)
  · exact .inr h
theorem NdF.up {F F' : Hp} (e : Same F F') {c : Str} {vs : List (Str × V)} (h : NdF F c vs) : NdF F' c vs := fun z v q => by
  obtain ⟨p, od, us, e1, e2, e3⟩ := h z v q
  exact ⟨p, od, us, e1, e _ _ e2, e3⟩
theorem NdF.nil {F : Hp} {c : Str} : NdF F c [] := fun _ v q => by cases q
section
variable {M : Mx} {F F' : Hp}
mutual
theorem Rep.mono (e : Same F F') : ∀ (d : D) (v : V), Rep M F v d → Rep M F' v d
  | .non, _, h => by
    cases h
    exact .non
  | .bl b, _, h => by
    cases h
    exact .bl b
  | .int b, _, h => by
    cases h
    exact .int b
  | .str b, _, h => by
    cases h
    exact .str b
  | .tup ds, _, h => by
    cases h with
    | tup h1 h2 => exact .tup (same_sqT e h1) (Reps.mono e ds _ h2)
  | .lst ds, _, h => by
    cases h with
    | lst h1 h2 => exact .lst (e _ _ h1) (Reps.mono e ds _ h2)
  | .scr ns, _, h => by
    cases h with
    | scr h1 => exact .scr (same_sqL e h1)
  | .obj c fs, _, h => by
    cases h with
    | obj h1 h2 h3 h4 => exact .obj (e _ _ h1) (RepF.mono e fs _ h2) h3 (h4.up e)
  | .fn x, _, h => by
    cases h with
    | fn h1 => exact .fn h1
  | .exc c fs, _, h => by
    cases h with
    | exc h1 h2 h3 h4 h5 h6 => exact .exc (e _ _ h1) h2 h3 (e _ _ h4) (RepF.mono e fs _ h5) h6
  | .tl n ds, _, h => by
    cases h with
    | tl h1 h2 => exact .tl (e _ _ h1) (Reps.mono e ds _ h2)
  | .xt k ks vs, _, h => by
    cases h with
    | xt h1 h2 h3 => exact .xt (e _ _ h1) (Reps.mono e ks _ h2) (Reps.mono e vs _ h3)
theorem Reps.mono (e : Same F F') : ∀ (ds : List D) (vs : List V), Reps M F vs ds → Reps M F' vs ds
  | [], _, h => by
    cases h
    exact .nil
  | d :: ds, _, h => by
    cases h with
    | cons h1 h2 => exact .cons (Rep.mono e d _ h1) (Reps.mono e ds _ h2)
theorem RepF.mono (e : Same F F') : ∀ (ds : List (Str × D)) (vs : List (Str × V)), RepF M F vs ds → RepF M F' vs ds
  | [], _, h => by
    cases h
    exact .nil
  | (f, d) :: ds, _, h => by
    cases h with
    | cons h1 h2 => exact .cons (Rep.mono e d _ h1) (RepF.mono e ds _ h2)
end
theorem Rep.up (e : Same F F') {d : D} {v : V} (h : Rep M F v d) : Rep M F' v d := Rep.mono e d v h
theorem Reps.up (e : Same F F') {d : List D} {v : List V} (h : Reps M F v d) : Reps M F' v d := Reps.mono e d v h
theorem RepF.up (e : Same F F') {d : List (Str × D)} {v : List (Str × V)} (h : RepF M F v d) : RepF M F' v d := RepF.mono e d v h
theorem Reps.length : ∀ {vs : List V} {ds : List D}, Reps M F vs ds → vs.length = ds.length
  | [], [], _ => rfl
  | _ :: _, _ :: _, .cons _ h => congrArg (· + 1) (Reps.length h)
theorem Reps.get : ∀ {vs : List V} {ds : List D} {i : Nat} {d : D}, Reps M F vs ds → ds[i]? = some d → ∃ v, vs[i]? = some v ∧ Rep M F v d
  | _, _, _, _, .nil, e => by simp at e
  | _, _, 0, _, .cons r _, e => ⟨_, rfl, by
    simp at e
    subst e
    exact r⟩
  | _, _, i + 1, d, .cons _ t, e => by
    obtain ⟨v, h1, h2⟩ := Reps.get (i := i) t (by simpa using e)
    exact ⟨v, by simpa using h1, h2⟩
theorem Reps.append : ∀ {vs ws : List V} {ds es : List D}, Reps M F vs ds → Reps M F ws es → Reps M F (vs ++ ws) (ds ++ es)
  | _, _, _, _, .nil, s => s
  | _, _, _, _, .cons r t, s => .cons r (Reps.append t s)
theorem Reps.take : ∀ {vs : List V} {ds : List D} (n : Nat), Reps M F vs ds → Reps M F (vs.take n) (ds.take n)
  | _, _, 0, _ => .nil
  | _, _, _ + 1, .nil => .nil
  | _, _, n + 1, .cons r t => .cons r (Reps.take n t)
theorem Reps.drop : ∀ {vs : List V} {ds : List D} (n : Nat), Reps M F vs ds → Reps M F (vs.drop n) (ds.drop n)
  | _, _, 0, h => h
  | _, _, _ + 1, .nil => .nil
  | _, _, n + 1, .cons _ t => Reps.drop n t
theorem Reps.set {v : V} {d : D} (r : Rep M F v d) : ∀ {vs : List V} {ds : List D} (i : Nat), Reps M F vs ds → Reps M F (vs.set i v) (ds.set i d)
  | _, _, _, .nil => .nil
  | _, _, 0, .cons _ t => .cons r t
  | _, _, i + 1, .cons q t => .cons q (Reps.set r i t)
theorem Reps.ofInts : ∀ ns : List Int, Reps M F (ns.map V.int) (ns.map D.int)
  | [] => .nil
  | n :: ns => .cons (.int n) (Reps.ofInts ns)
end
inductive OC where
  | ls (ds : List D) | ob (c : Str) (fs : List (Str × D)) | xt (k : Xk) (ks vs : List D)
def OC.D : OC → D
  | .ls ds => .lst ds
  | .ob c fs => .obj c fs
  | .xt k ks vs => .xt k ks vs
inductive OcRep (M : Mx) (F : Hp) : HO → OC → Prop
  | ls {vs : List V} {ds : List D} : Reps M F vs ds → OcRep M F (.lst vs) (.ls ds)
  | ob {dx : Addr} {c : Str} {vs : List (Str × V)} {fs : List (Str × D)} : RepF M F vs fs → ObOk M.K (M.ca c) (fs.map (·.1)) → NdF F c vs → OcRep M F (.ins (M.ca c) dx vs) (.ob c fs)
  | xt {a : Addr × Obj} {k : Xk} {us ws : List V} {ks vs : List D} : Reps M F us ks → Reps M F ws vs → OcRep M F (XtO M k a us ws ks vs) (.xt k ks vs)
theorem OcRep.up {M : Mx} {F F' : Hp} (e : Same F F') {o : HO} {oc : OC} (h : OcRep M F o oc) : OcRep M F' o oc := by
  cases h with
  | ls r => exact .ls (r.up e)
  | ob r k nd => exact .ob (r.up e) k (nd.up e)
  | xt r s => exact .xt (r.up e) (s.up e)
theorem OcRep.nt {M : Mx} {F : Hp} {o : HO} {oc : OC} (h : OcRep M F o oc) : ∀ ps, o ≠ .tbl ps := fun ps z => by
  subst z
  cases h
theorem OcRep.nb {M : Mx} {F : Hp} {o : HO} {oc : OC} (h : OcRep M F o oc) : ∀ n vs, o ≠ bw n vs := fun n vs z => by
  subst z
  cases h
theorem hp_all (n : Nat) (o : Obj) (h : o.data ≠ .freed) : ∃ hh : Heap, ∀ b : Nat, b < n → hh.get? b = some o := by
  refine ⟨{ objs := Array.replicate n o }, fun b hb => ?_⟩
  unfold Heap.get?
  have e : (Array.replicate n o)[b]? = some o := by
    rw [Array.getElem?_replicate, if_pos hb]
  show (match (Array.replicate n o)[b]? with
    | some ⟨_, _, .freed, _⟩ => none
    | x => x) = some o
  rw [e]
  split
  · rename_i z
    cases z
    exact (h rfl).elim
  · rfl
theorem ne_xt_code {M : Mx} {k : Xk} {a : Addr × Obj} {c : Addr} {us ws : List V} {ks vs : List D} {q : Str} : XtO M k a us ws ks vs ≠ LamX.CodeO c q := fun z => by
  have z1 : HO.ext (XtP M.w k a us ws ks vs) = HO.ext fun h => ∃ (oc : Obj) (vs : Array Value) (t : Tok), h.get? c = some oc ∧ oc.data = .fields vs ∧ vs[1]? = some (.str q t) := z
  injection z1 with z2
  obtain ⟨hh, hg⟩ := hp_all ((a.1 : Nat) + (c : Nat) + 1) { cls := .none, data := .fields #[.none, .str q default] } (by intro y; cases y)
  have h1 := congrFun z2 hh
  have h2 : XtP M.w k a us ws ks vs hh := by
    rw [h1]
    exact ⟨_, _, _, hg c (Nat.lt_succ_of_le (Nat.le_add_left _ _)), rfl, rfl⟩
  cases k with
  | dct =>
    obtain ⟨ho, _, _, _, _, _, xs, ys, ep, _, _, _, hd⟩ := h2
    rw [hg a.1 (Nat.lt_succ_of_le (Nat.le_add_right _ _))] at ho
    rw [← Option.some.inj ho] at hd
    cases hd
  | oth n => exact h2
theorem OcRep.nc {M : Mx} {F : Hp} {o : HO} {oc : OC} {c : Addr} {q : Str} (h : OcRep M F o oc) : o ≠ LamX.CodeO c q := fun z => by
  cases h with
  | ls r => cases z
  | ob r k nd => cases z
  | xt r s => exact ne_xt_code z
theorem OcRep.lst {M : Mx} {F : Hp} {o : HO} {ds : List D} (h : OcRep M F o (.ls ds)) : ∃ vs, o = .lst vs ∧ Reps M F vs ds := by
  cases h with
  | ls r => exact ⟨_, rfl, r⟩
inductive SV where
  | no | im (d : D) | ow (io : Bool) (oc : OC)
abbrev SE := List SV
def isOw (ρ : SE) (i : Nat) : Prop := ∃ io oc, ρ[i]? = some (SV.ow io oc)
def Own (σ : L2.St) (ρ : SE) (b : Addr) : Prop := ∃ i : Nat, isOw ρ i ∧ σ[i]? = some (some (V.ref b))
def NoTb (F : Hp) : Prop := ∀ b ps, F b ≠ some (.tbl ps)
theorem NoTb.upd {F : Hp} {a : Addr} {o : HO} (h : NoTb F) (n : ∀ ps, o ≠ .tbl ps) : NoTb (upd F a o) := fun b ps e => by
  by_cases hb : b = a
  · subst hb
    rw [upd_same] at e
    exact n ps (Option.some.inj e)
  · rw [upd_ne hb] at e
    exact h b ps e
structure SubF (F H : Hp) : Prop where
  go : ∀ b o, F b = some o → (n : ∀ n vs, o ≠ bw n vs := by intro _ _ z; cases z) → H b = some o
  bk : ∀ b n vs, F b = some (bw n vs) → H b = some (.lst vs)
theorem SubF.free {F H : Hp} (h : SubF F H) {a : Addr} (n : H a = none) : F a = none := by
  cases e : F a with
  | none => rfl
  | some o =>
    by_cases hb : ∃ n vs, o = bw n vs
    · obtain ⟨m, vs, rfl⟩ := hb
      rw [h.bk a m vs e] at n
      cases n
    · rw [h.go a o e fun m vs z => hb ⟨m, vs, z⟩] at n
      cases n
theorem SubF.trans {F H H' : Hp} (h : SubF F H) (e : Same H H') : SubF F H' := ⟨fun b o z n => e _ _ (h.go b o z n), fun b n vs z => e _ _ (h.bk b n vs z)⟩
theorem SubF.from {F F' H : Hp} (e : Same F F') (h : SubF F' H) : SubF F H := ⟨fun b o z n => h.go b o (e _ _ z) n, fun b n vs z => h.bk b n vs (e _ _ z)⟩
theorem SubF.sqT {K : PySem.W.Frag} {F H : Hp} (h : SubF F H) {a : Addr} {xs : List V} (z : SqT K F a xs) : SqT K H a xs := by
  rcases z with (z | ⟨o, z⟩) | z
  · exact .inl (.inl (h.go _ _ z))
  · exact .inl (.inr ⟨o, h.go _ _ z⟩)
  · exact .inr z
theorem SubF.sqL {K : PySem.W.Frag} {F H : Hp} (h : SubF F H) {a : Addr} {xs : List V} (z : SqL K F a xs) : SqL K H a xs := by
  rcases z with (z | ⟨o, z⟩) | z
  · exact .inl (.inl (h.go _ _ z))
  · exact .inl (.inr ⟨o, h.go _ _ z⟩)
  · exact .inr z
structure Sim (M : Mx) (F H : Hp) (σ : L2.St) (ρ : SE) : Prop where
  sub0 : SubF F H ∧ NoTb F
  tabs : LamX.Tabs M.T H
  len : σ.length = ρ.length
  im : ∀ (i : Nat) d, ρ[i]? = some (SV.im d) → ∃ v, σ[i]? = some (some v) ∧ Rep M F v d
  ow : ∀ (i : Nat) io oc, ρ[i]? = some (SV.ow io oc) → ∃ a o, σ[i]? = some (some (V.ref a)) ∧ H a = some o ∧ F a = none ∧ OcRep M F o oc
  inj : ∀ (i j : Nat) a, isOw ρ i → isOw ρ j → σ[i]? = some (some (V.ref a)) → σ[j]? = some (some (V.ref a)) → i = j
theorem Sim.sub {M : Mx} {F H : Hp} {σ : L2.St} {ρ : SE} (s : Sim M F H σ ρ) : SubF F H := s.sub0.1
theorem Sim.owl {M : Mx} {F H : Hp} {σ : L2.St} {ρ : SE} (s : Sim M F H σ ρ) (i : Nat) (io : Bool) (ds : List D) (h : ρ[i]? = some (SV.ow io (.ls ds))) : ∃ a vs, σ[i]? = some (some (V.ref a)) ∧ H a = some (.lst vs) ∧ F a = none ∧ Reps M F vs ds := by
  obtain ⟨a, o, e, h1, h2, r⟩ := s.ow i io _ h
  obtain ⟨vs, rfl, r2⟩ := r.lst
  exact ⟨a, vs, e, h1, h2, r2⟩
theorem Sim.ntb {M : Mx} {F H : Hp} {σ : L2.St} {ρ : SE} (s : Sim M F H σ ρ) : NoTb F := s.sub0.2
def Fre (H : Hp) (b : Addr) : Prop := ∀ o, H b = some o → ∃ ps, o = .tbl ps
theorem Fre.of {H : Hp} {b : Addr} (e : H b = none) : Fre H b := fun o z => by
  rw [e] at z
  cases z
theorem Fre.no {H : Hp} {b : Addr} {o : HO} (f : Fre H b) (e : H b = some o) (n : ∀ ps, o ≠ .tbl ps) : False := by
  obtain ⟨ps, z⟩ := f o e
  exact n ps z
theorem Fre.lst {H : Hp} {b : Addr} {vs : List V} (f : Fre H b) (e : H b = some (.lst vs)) : False := f.no e fun ps z => by cases z
theorem Fre.back {H : Hp} {b x : Addr} {u : HO} (z : Fre (upd H x u) b) (n : ∀ ps, u ≠ .tbl ps := by intro _ z; cases z) : Fre H b := fun o q => by
  by_cases hb : b = x
  · subst hb
    exact (z.no upd_same n).elim
  · exact z o (by rw [upd_ne hb]; exact q)
theorem Fre.ne {H : Hp} {b x : Addr} {o : HO} (f : Fre H x) (e : H b = some o) (n : ∀ ps, o ≠ .tbl ps) : b ≠ x := fun z => by
  subst z
  exact f.no e n
structure Stp (F H : Hp) (σ : L2.St) (ρ : SE) (F' H' : Hp) (σ' : L2.St) (ρ' : SE) : Prop where
  same : Same F F'
  keep : ∀ b o, H b = some o → ¬ Own σ ρ b → (∀ ps, o ≠ .tbl ps) → H' b = some o
  new : ∀ b, Own σ' ρ' b → Own σ ρ b ∨ Fre H b
  newF : ∀ b o, F' b = some o → F b = some o ∨ Own σ ρ b ∨ Fre H b
  dom : ∀ b, Fre H' b → Fre H b
  io : ∀ (i : Nat) ds, ρ[i]? = some (SV.ow true ds) → σ'[i]? = σ[i]? ∧ ∃ ds', ρ'[i]? = some (SV.ow true ds')
  noio : ∀ (i : Nat) ds, ρ'[i]? = some (SV.ow true ds) → ∃ ds', ρ[i]? = some (SV.ow true ds')
section
variable {M : Mx} {F H F1 H1 F2 H2 F' H' : Hp} {σ σ1 σ2 : L2.St} {ρ ρ1 ρ2 : SE}
theorem Stp.refl (F H : Hp) (σ : L2.St) (ρ : SE) : Stp F H σ ρ F H σ ρ := ⟨Same.refl _, fun _ _ h _ _ => h, fun _ h => .inl h, fun _ _ h => .inl h, fun _ h => h, fun _ ds h => ⟨rfl, ds, h⟩, fun _ ds h => ⟨ds, h⟩⟩
theorem Stp.trans (a : Stp F H σ ρ F1 H1 σ1 ρ1) (b : Stp F1 H1 σ1 ρ1 F2 H2 σ2 ρ2) : Stp F H σ ρ F2 H2 σ2 ρ2 := by
  have back : ∀ x, Fre H1 x ∨ Own σ1 ρ1 x → Own σ ρ x ∨ Fre H x := fun x h => by
    rcases h with h | h
    · exact .inr (a.dom x h)
    · exact a.new x h
  refine ⟨a.same.trans b.same, fun x o h n nt' => ?_, fun x h => ?_, fun x o h => ?_, fun x h => a.dom x (b.dom x h), fun i ds h => ?_, fun i ds h => ?_⟩
  · refine b.keep x o (a.keep x o h n nt') (fun z => ?_) nt'
    rcases a.new x z with z | z
    · exact n z
    · exact z.no h nt'
  · rcases b.new x h with z | z
    · exact a.new x z
    · exact .inr (a.dom x z)
  · rcases b.newF x o h with z | z
    · exact a.newF x o z
    · exact .inr (back x z.symm)
  · obtain ⟨e1, ds1, h1⟩ := a.io i ds h
    obtain ⟨e2, ds2, h2⟩ := b.io i ds1 h1
    exact ⟨e2.trans e1, ds2, h2⟩
  · obtain ⟨ds1, h1⟩ := b.noio i ds h
    exact a.noio i ds1 h1
theorem SubF.both {F H : Hp} (h : SubF F H) {a : Addr} {o : HO} (nb : ∀ n vs, o ≠ bw n vs := by intro _ _ z; cases z) : SubF (upd F a o) (upd H a o) := by
  refine ⟨fun b u e n => ?_, fun b n vs e => ?_⟩
  · by_cases hb : b = a
    · subst hb
      rw [upd_same] at e ⊢
      exact e
    · rw [upd_ne hb] at e ⊢
      exact h.go _ _ e n
  · by_cases hb : b = a
    · subst hb
      rw [upd_same] at e
      exact (nb n vs (Option.some.inj e)).elim
    · rw [upd_ne hb] at e ⊢
      exact h.bk _ _ _ e
theorem SubF.put {F H : Hp} (h : SubF F H) {a : Addr} {o : HO} (ho : H a = some o) (nb : ∀ n vs, o ≠ bw n vs) : SubF (upd F a o) H := by
  refine ⟨fun b u e n => ?_, fun b n vs e => ?_⟩
  · by_cases hb : b = a
    · subst hb
      rw [upd_same] at e
      rw [← e]
      exact ho
    · rw [upd_ne hb] at e
      exact h.go _ _ e n
  · by_cases hb : b = a
    · subst hb
      rw [upd_same] at e
      exact (nb n vs (Option.some.inj e)).elim
    · rw [upd_ne hb] at e
      exact h.bk _ _ _ e
structure Alc (F H F' H' : Hp) : Prop where
  same : Same F F'
  sameH : Same H H'
  sub : SubF F' H'
  newF : ∀ b o, F' b = some o → F b = some o ∨ H b = none
  ntb : NoTb F → NoTb F'
theorem Alc.refl (h : SubF F H) : Alc F H F H := ⟨Same.refl _, Same.refl _, h, fun _ _ h => .inl h, id⟩
theorem Alc.trans (a : Alc F H F1 H1) (b : Alc F1 H1 F2 H2) : Alc F H F2 H2 := ⟨a.same.trans b.same, a.sameH.trans b.sameH, b.sub, fun x o h => by
  rcases b.newF x o h with z | z
  · exact a.newF x o z
  · exact .inr (a.sameH.free z), fun z => b.ntb (a.ntb z)⟩
theorem same_upd {a : Addr} {o : HO} (n : H a = none) : Same H (upd H a o) := fun b u h => by
  rw [upd_ne (ne_of_none h n)]
  exact h
theorem Alc.new {a : Addr} {o : HO} (h : SubF F H) (n : H a = none) : Alc F H F (upd H a o) := ⟨Same.refl _, same_upd n, h.trans (same_upd n), fun _ _ h => .inl h, id⟩
theorem Alc.newF' {a : Addr} {o : HO} (h : SubF F H) (n : H a = none) (nt : ∀ ps, o ≠ .tbl ps := by intro _ z; cases z) (nb : ∀ n vs, o ≠ bw n vs := by intro _ _ z; cases z) : Alc F H (upd F a o) (upd H a o) := by
  have nF : F a = none := h.free n
  refine ⟨same_upd nF, same_upd n, h.both nb, fun b u e => ?_, fun z => z.upd nt⟩
  · by_cases hb : b = a
    · subst hb
      exact .inr n
    · rw [upd_ne hb] at e
      exact .inl e
theorem Alc.stp (a : Alc F H F' H') (σ : L2.St) (ρ : SE) : Stp F H σ ρ F' H' σ ρ :=
  ⟨a.same, fun b o h _ _ => a.sameH b o h, fun _ h => .inl h, fun b o h => (a.newF b o h).elim .inl fun z => .inr (.inr (.of z)), fun b h o q => h o (a.sameH _ _ q), fun _ ds h => ⟨rfl, ds, h⟩, fun _ ds h => ⟨ds, h⟩⟩
theorem Alc.free {a : Addr} {o : HO} (x : Alc F H F' H') (hF : F a = none) (hH : H a = some o) : F' a = none := by
  cases e : F' a with
  | none => rfl
  | some u =>
    rcases x.newF a u e with z | z
    · rw [hF] at z
      cases z
    · rw [hH] at z
      cases z
theorem Sim.alc (s : Sim M F H σ ρ) (a : Alc F H F' H') : Sim M F' H' σ ρ :=
  ⟨⟨a.sub, a.ntb s.ntb⟩, s.tabs.ext a.sameH, s.len, fun i d h => by
    obtain ⟨v, e, r⟩ := s.im i d h
    exact ⟨v, e, r.up a.same⟩, fun i io ds h => by
    obtain ⟨b, o, e, h1, h2, r⟩ := s.ow i io ds h
    exact ⟨b, o, e, a.sameH _ _ h1, a.free h2 h1, r.up a.same⟩, s.inj⟩
theorem Sim.ownF (s : Sim M F H σ ρ) {b : Addr} (h : Own σ ρ b) : F b = none ∧ ∃ o, H b = some o ∧ (∀ ps, o ≠ .tbl ps) := by
  obtain ⟨i, ⟨io, ds, e⟩, e2⟩ := h
  obtain ⟨a, o, e3, h1, h2, r⟩ := s.ow i io ds e
  rw [e2] at e3
  cases e3
  exact ⟨h2, o, h1, r.nt⟩
end
inductive RV where
  | im (d : D) | ow (oc : OC) | bo (i : Nat) | ot (ds : List D) (d : D) | bt (i : Nat) (d : D)
structure Exc where
  cls : Str
  fs : List (Str × D)
inductive R (α : Type) where
  | bad | ok (a : α) (ρ : SE) | ex (e : Exc) (ρ : SE)
abbrev DM (α : Type) := SE → R α
def R.bind {α β : Type} (r : R α) (f : α → SE → R β) : R β := match r with
  | .bad => .bad
  | .ok a ρ => f a ρ
  | .ex e ρ => .ex e ρ
def RvOk (M : Mx) (H0 F H : Hp) (σ : L2.St) (ρ : SE) (v : V) : RV → Prop
  | .im d => Rep M F v d
  | .ow oc => ∃ a o, v = .ref a ∧ H a = some o ∧ F a = none ∧ OcRep M F o oc ∧ ¬ Own σ ρ a ∧ Fre H0 a
  | .bo i => isOw ρ i ∧ σ[i]? = some (some v)
  | .bt i d => ∃ (T a : Addr) (x : V), v = .ref T ∧ H T = some (.tup [.ref a, x]) ∧ isOw ρ i ∧ σ[i]? = some (some (.ref a)) ∧ Rep M F x d
  | .ot ds d => ∃ (T a : Addr) (vs : List V) (x : V), v = .ref T ∧ H T = some (.tup [.ref a, x]) ∧ H a = some (.lst vs) ∧ F a = none ∧ Reps M F vs ds ∧ Rep M F x d ∧ ¬ Own σ ρ a ∧ Fre H0 a
def ExcOk (M : Mx) (F H : Hp) (cls : Value) (d : Option Addr) (e : Exc) : Prop :=
  cls = .ref (M.ca e.cls) ∧ ∃ dx vs, d = some dx ∧ F dx = some (.xd vs) ∧ RepF M F vs e.fs ∧ XcOk M.K (M.ca e.cls) (e.fs.map (·.1))
abbrev WX := Value → Option Addr → L2.St → Hp → Prop
def Post (M : Mx) (W : WX) (σ : L2.St) (ρ : SE) (F H : Hp) (r : R RV) (Q : VK) : Prop := match r with
  | .bad => False
  | .ok r ρ' => ∀ F' H' v, Stp F H σ ρ F' H' σ ρ' → Sim M F' H' σ ρ' → RvOk M H F' H' σ ρ' v r → Q v H'
  | .ex e ρ' => ∀ F' H' cls d, Stp F H σ ρ F' H' σ ρ' → Sim M F' H' σ ρ' → ExcOk M F' H' cls d e → W cls d σ H'
def PostT (M : Mx) (W : WX) (σ : L2.St) (ρ : SE) (F H : Hp) (r : R Bool) (Q : Bool → Hp → Prop) : Prop := match r with
  | .bad => False
  | .ok b ρ' => ∀ F' H', Stp F H σ ρ F' H' σ ρ' → Sim M F' H' σ ρ' → Q b H'
  | .ex e ρ' => ∀ F' H' cls d, Stp F H σ ρ F' H' σ ρ' → Sim M F' H' σ ρ' → ExcOk M F' H' cls d e → W cls d σ H'
inductive AV where
  | d (d : D) | io (i : Nat)
def AvOk (M : Mx) (F : Hp) (σ : L2.St) (ρ : SE) (v : V) : AV → Prop
  | .d d => Rep M F v d
  | .io i => isOw ρ i ∧ σ[i]? = some (some v)
inductive AvsOk (M : Mx) (F : Hp) (σ : L2.St) (ρ : SE) : List V → List AV → Prop
  | nil : AvsOk M F σ ρ [] []
  | cons {v : V} {vs : List V} {a : AV} {as : List AV} : AvOk M F σ ρ v a → AvsOk M F σ ρ vs as → AvsOk M F σ ρ (v :: vs) (a :: as)
def PostA (M : Mx) (W : WX) (σ : L2.St) (ρ : SE) (F H : Hp) (r : R (List AV)) (Q : List V → Hp → Prop) : Prop := match r with
  | .bad => False
  | .ok as ρ' => ∀ F' H' vs, Stp F H σ ρ F' H' σ ρ' → Sim M F' H' σ ρ' → AvsOk M F' σ ρ' vs as → Q vs H'
  | .ex e ρ' => ∀ F' H' cls d, Stp F H σ ρ F' H' σ ρ' → Sim M F' H' σ ρ' → ExcOk M F' H' cls d e → W cls d σ H'
inductive Fl where
  | nx | bk | ct | rt (r : RV)
def PostS (M : Mx) (W : WX) (σ : L2.St) (ρ : SE) (F H : Hp) (r : R Fl) (E : Ends) : Prop := match r with
  | .bad => False
  | .ok .nx ρ' => ∀ F' H' σ', Stp F H σ ρ F' H' σ' ρ' → Sim M F' H' σ' ρ' → E.nx σ' H'
  | .ok .bk ρ' => ∀ F' H' σ', Stp F H σ ρ F' H' σ' ρ' → Sim M F' H' σ' ρ' → E.bk σ' H'
  | .ok .ct ρ' => ∀ F' H' σ', Stp F H σ ρ F' H' σ' ρ' → Sim M F' H' σ' ρ' → E.ct σ' H'
  | .ok (.rt r) ρ' => ∀ F' H' σ' v, Stp F H σ ρ F' H' σ' ρ' → Sim M F' H' σ' ρ' → RvOk M H F' H' σ' ρ' v r → E.rt v H'
  | .ex e ρ' => ∀ F' H' σ' cls d, Stp F H σ ρ F' H' σ' ρ' → Sim M F' H' σ' ρ' → ExcOk M F' H' cls d e → W cls d σ' H'
def DE (X : Cx) (M : Mx) (W : WX) (e : Expr) (m : DM RV) : Prop := ∃ te, PE X e te ∧ ∀ σ H F ρ Q, Sim M F H σ ρ → Post M W σ ρ F H (m ρ) Q → te σ H Q
def DT (X : Cx) (M : Mx) (W : WX) (e : Expr) (m : DM Bool) : Prop := ∃ te, PT X e te ∧ ∀ σ H F ρ Q, Sim M F H σ ρ → PostT M W σ ρ F H (m ρ) Q → te σ H Q
def DW (X : Cx) (M : Mx) (W : WX) (e : Expr) (m : DM Bool) : Prop := ∃ te, PW X e te ∧ ∀ σ H F ρ Q, Sim M F H σ ρ → PostT M W σ ρ F H (m ρ) Q → te σ H Q
def DA (X : Cx) (M : Mx) (W : WX) (es : List Expr) (m : DM (List AV)) : Prop := ∃ t, PA X es t ∧ ∀ σ H F ρ Q, Sim M F H σ ρ → PostA M W σ ρ F H (m ρ) Q → t σ H Q
def DS (X : Cx) (M : Mx) (W : WX) (st : Stmt) (m : DM Fl) : Prop := ∃ t, PS X st t ∧ ∀ σ H F ρ E, Sim M F H σ ρ → PostS M W σ ρ F H (m ρ) E → t E σ H
def DSs (X : Cx) (M : Mx) (W : WX) (st : List Stmt) (m : DM Fl) : Prop := ∃ t, PSs X st t ∧ ∀ σ H F ρ E, Sim M F H σ ρ → PostS M W σ ρ F H (m ρ) E → t E σ H
end DL

/- part -/
set_option Elab.async false
set_option linter.all false
set_option maxRecDepth 100000
set_option maxHeartbeats 4000000
namespace DL
open PySem PySem.Spec PyProof.Rows L2
def unl : D → D
  | .tl _ ds => .lst ds
  | d => d
def look (ρ : SE) : RV → Option D
  | .im d => some (unl d)
  | .ow oc => some oc.D
  | .bo i => match ρ[i]? with
    | some (.ow _ oc) => some oc.D
    | _ => none
  | .ot _ _ => none
  | .bt _ _ => none
def Vw (M : Mx) (F H : Hp) (v : V) : D → Prop
  | .lst ds => ∃ a vs, v = .ref a ∧ H a = some (.lst vs) ∧ Reps M F vs ds
  | .obj c fs => ∃ a dx vs, v = .ref a ∧ H a = some (.ins (M.ca c) dx vs) ∧ RepF M F vs fs ∧ ObOk M.K (M.ca c) (fs.map (·.1)) ∧ NdF F c vs
  | .xt k ks ds => ∃ a a' us ws, v = .ref a ∧ H a = some (XtO M k a' us ws ks ds) ∧ Reps M F us ks ∧ Reps M F ws ds
  | d => Rep M F v d
section
variable {M : Mx} {W : WX} {F H F1 H1 F2 H2 F' H' H0 : Hp} {σ σ1 σ2 : L2.St} {ρ ρ1 ρ2 : SE}
theorem Vw.of (s : SubF F H) {v : V} {d : D} (h : Rep M F v d) : Vw M F H v (unl d) := by
  cases d with
  | lst ds =>
    cases h with
    | lst h1 h2 => exact ⟨_, _, rfl, s.go _ _ h1, h2⟩
  | obj c fs =>
    cases h with
    | obj h1 h2 h3 h4 => exact ⟨_, _, _, rfl, s.go _ _ h1, h2, h3, h4⟩
  | tl n ds =>
    cases h with
    | tl h1 h2 => exact ⟨_, _, rfl, s.bk _ _ _ h1, h2⟩
  | xt k ks ds =>
    cases h with
    | xt h1 h2 h3 => exact ⟨_, _, _, _, rfl, s.go _ _ h1, h2, h3⟩
  | _ => exact h
theorem Vw.ofOc {v : V} {a : Addr} {o : HO} {oc : OC} (e : v = .ref a) (h : H a = some o) (r : OcRep M F o oc) : Vw M F H v oc.D := by
  cases r with
  | ls r => exact ⟨_, _, e, h, r⟩
  | ob r k nd => exact ⟨_, _, _, e, h, r, k, nd⟩
  | xt r s => exact ⟨_, _, _, _, e, h, r, s⟩
theorem Vw.alc (x : Alc F H F' H') {v : V} {d : D} (h : Vw M F H v d) : Vw M F' H' v d := by
  cases d with
  | lst ds =>
    obtain ⟨a, vs, e, h1, h2⟩ := h
    exact ⟨a, vs, e, x.sameH _ _ h1, h2.up x.same⟩
  | obj c fs =>
    obtain ⟨a, dx, vs, e, h1, h2, h3, h4⟩ := h
    exact ⟨a, dx, vs, e, x.sameH _ _ h1, h2.up x.same, h3, h4.up x.same⟩
  | xt k ks ds =>
    obtain ⟨a, a', us, ws, e, h1, h2, h3⟩ := h
    exact ⟨a, a', us, ws, e, x.sameH _ _ h1, h2.up x.same, h3.up x.same⟩
  | _ => exact Rep.up x.same h
theorem RvOk.view {v : V} {r : RV} {d : D} (h : RvOk M H0 F1 H1 σ ρ1 v r) (st : Stp F1 H1 σ ρ1 F2 H2 σ ρ2) (sm : Sim M F2 H2 σ ρ2) (hl : look ρ2 r = some d) : Vw M F2 H2 v d := by
  cases r with
  | im e =>
    cases hl
    exact Vw.of sm.sub (Rep.up st.same h)
  | ow oc =>
    cases hl
    obtain ⟨a, o, e, h1, h2, h3, h4, h5⟩ := h
    exact Vw.ofOc e (st.keep _ _ h1 h4 h3.nt) (h3.up st.same)
  | ot ds d => cases hl
  | bt i d => cases hl
  | bo i =>
    obtain ⟨_, h2⟩ := h
    have hl : (match ρ2[i]? with
      | some (.ow _ oc) => some oc.D
      | _ => none) = some d := hl
    split at hl
    · rename_i io oc e
      cases hl
      obtain ⟨a, o, e1, e2, e3, e4⟩ := sm.ow i io oc e
      rw [h2] at e1
      cases e1
      exact Vw.ofOc rfl e2 e4
    · cases hl
theorem RvOk.view0 {v : V} {r : RV} {d : D} (h : RvOk M H0 F1 H1 σ ρ1 v r) (sm : Sim M F1 H1 σ ρ1) (hl : look ρ1 r = some d) : Vw M F1 H1 v d := h.view (Stp.refl _ _ _ _) sm hl
def RvNew (M : Mx) (H F' H' : Hp) (v : V) : RV → Prop
  | .im d => Rep M F' v d
  | .ow oc => ∃ a o, v = .ref a ∧ H' a = some o ∧ F' a = none ∧ OcRep M F' o oc ∧ H a = none
  | .bo _ => False
  | .ot _ _ => False
  | .bt _ _ => False
theorem RvNew.ok {v : V} {r : RV} (h : RvNew M H1 F' H' v r) (sm : Sim M F1 H1 σ ρ1) (dom : ∀ b, Fre H1 b → Fre H0 b) : RvOk M H0 F' H' σ ρ1 v r := by
  cases r with
  | im d => exact h
  | ow ds =>
    obtain ⟨a, vs, e, h1, h2, h3, h4⟩ := h
    refine ⟨a, vs, e, h1, h2, h3, fun z => ?_, dom a (.of h4)⟩
    obtain ⟨_, o, e2, _⟩ := sm.ownF z
    rw [h4] at e2
    cases e2
  | bo i => exact h.elim
  | ot ds d => exact h.elim
  | bt i d => exact h.elim
theorem RvNew.int {i : Int} : RvNew M H F' H' (.int i) (.im (.int i)) := Rep.int i
theorem RvNew.bl {i : Bool} : RvNew M H F' H' (.bl i) (.im (.bl i)) := Rep.bl i
theorem RvNew.str {i : Str} : RvNew M H F' H' (.str i) (.im (.str i)) := Rep.str i
def ofO {α : Type} (o : Option α) (ρ : SE) : R α := match o with
  | none => .bad
  | some a => .ok a ρ
variable {X : Cx}
def dVar (i : Nat) : DM RV := fun ρ => match ρ[i]? with
  | some (.im d) => .ok (.im d) ρ
  | some (.ow _ _) => .ok (.bo i) ρ
  | _ => .bad
theorem de_var (i : Nat) {x : Str} {pos : Pos} (hN : X.N[i]? = some x := by rfl) (hv : Vis X.env.scope x := by first | exact Or.inl rfl | exact Or.inr (Or.inl rfl) | exact Or.inr (Or.inr rfl)) (hd : (x == ("__debug__" : Str)) = false := by decide)
    (hcd : (x == ("__classdict__" : Str)) = false := by decide) : DE X M W (.Name x pos) (dVar i) := by
  refine ⟨_, pe_var hN hv hd hcd, fun σ H F ρ Q sm h => ?_⟩
  unfold dVar at h
  split at h
  · rename_i d e
    obtain ⟨v, e1, r⟩ := sm.im i d e
    exact ⟨v, e1, h F H v (Stp.refl _ _ _ _) sm r⟩
  · rename_i io ds e
    obtain ⟨a, vs, e1, _⟩ := sm.ow i io ds e
    exact ⟨_, e1, h F H _ (Stp.refl _ _ _ _) sm ⟨⟨io, ds, e⟩, e1⟩⟩
  · exact h.elim
def dC (d : D) : DM RV := fun ρ => .ok (.im d) ρ
theorem de_tC {e : Expr} {v : V} {d : D} (he : PE X e (tC v)) (r : ∀ F, Rep M F v d) : DE X M W e (dC d) :=
  ⟨_, he, fun σ H F ρ Q sm h => h F H v (Stp.refl _ _ _ _) sm (r F)⟩
theorem de_int {i j pos} : DE X M W (.Constant (.int i) j pos) (dC (.int i)) := de_tC pe_int fun _ => .int i
theorem de_bl {i j pos} : DE X M W (.Constant (.bool i) j pos) (dC (.bl i)) := de_tC pe_bl fun _ => .bl i
theorem de_str {i j pos} : DE X M W (.Constant (.str i) j pos) (dC (.str i)) := de_tC pe_str fun _ => .str i
theorem de_non {j pos} : DE X M W (.Constant .none j pos) (dC .non) := de_tC pe_non fun _ => .non
theorem de_glob {x : Str} {v : V} {u : Value} {d : D} {pos : Pos} (hg : Gl X x) (hm : X.mg x = some u) (r : RelV v u) (rd : ∀ F, Rep M F v d) (hd : (x == ("__debug__" : Str)) = false := by decide) : DE X M W (.Name x pos) (dC d) :=
  de_tC (pe_glob hg hm r hd) rd
def Op2 (M : Mx) (r : R2) (g : D → D → Option RV) : Prop := ∀ (F H : Hp) (x y : V) (d e : D) (rv : RV) (Q : VK), SubF F H → Vw M F H x d → Vw M F H y e → g d e = some rv → (∀ F' H' v, Alc F H F' H' → RvNew M H F' H' v rv → Q v H') → r x y H Q
def Op1 (M : Mx) (r : V → Hp → VK → Prop) (g : D → Option RV) : Prop := ∀ (F H : Hp) (x : V) (d : D) (rv : RV) (Q : VK), SubF F H → Vw M F H x d → g d = some rv → (∀ F' H' v, Alc F H F' H' → RvNew M H F' H' v rv → Q v H') → r x H Q
def dOp2 (g : D → D → Option RV) (ma mb : DM RV) : DM RV := fun ρ => (ma ρ).bind fun x ρ1 => (mb ρ1).bind fun y ρ2 => ofO ((look ρ2 x).bind fun d => (look ρ2 y).bind fun e => g d e) ρ2
def dOp1 (g : D → Option RV) (ma : DM RV) : DM RV := fun ρ => (ma ρ).bind fun x ρ1 => ofO ((look ρ1 x).bind g) ρ1
theorem bind_some2 {α β γ : Type} {x : Option α} {y : Option β} {g : α → β → Option γ} {r : γ} (h : (x.bind fun d => y.bind fun e => g d e) = some r) : ∃ d e, x = some d ∧ y = some e ∧ g d e = some r := by
  cases x with
  | none => cases h
  | some d =>
    cases y with
    | none => cases h
    | some e => exact ⟨d, e, rfl, rfl, h⟩
theorem bind_some1 {α γ : Type} {x : Option α} {g : α → Option γ} {r : γ} (h : x.bind g = some r) : ∃ d, x = some d ∧ g d = some r := by
  cases x with
  | none => cases h
  | some d => exact ⟨d, rfl, h⟩
theorem Post.step {α : Type} {ma : R α} {Q : α → Prop} {P : Prop} (hb : ma = .bad → P) (ho : ∀ r ρ1, ma = .ok r ρ1 → P) (hx : ∀ e ρ1, ma = .ex e ρ1 → P) : P := by
  cases e : ma with
  | bad => exact hb e
  | ok r ρ1 => exact ho r ρ1 e
  | ex x ρ1 => exact hx x ρ1 e
theorem Post.go {r : R RV} {Q : VK} {g : RV → SE → R RV} (h : Post M W σ ρ F H (r.bind g) Q) {Q' : VK}
    (k : ∀ a ρ1 F1 H1 v, r = .ok a ρ1 → Stp F H σ ρ F1 H1 σ ρ1 → Sim M F1 H1 σ ρ1 → RvOk M H F1 H1 σ ρ1 v a → Post M W σ ρ F H (g a ρ1) Q → Q' v H1) : Post M W σ ρ F H r Q' := by
  cases r with
  | bad => exact h
  | ok a ρ1 => exact fun F1 H1 v st sm ok => k a ρ1 F1 H1 v rfl st sm ok h
  | ex e ρ1 => exact h
theorem Post.from {r : R RV} {Q : VK} (st : Stp F H σ ρ F1 H1 σ ρ1) (h : Post M W σ ρ F H r Q) : Post M W σ ρ1 F1 H1 r Q := by
  cases r with
  | bad => exact h
  | ok a ρ2 =>
    refine fun F2 H2 v st2 sm ok => h F2 H2 v (st.trans st2) sm ?_
    cases a with
    | im d => exact ok
    | ow ds =>
      obtain ⟨a, vs, e, h1, h2, h3, h4, h5⟩ := ok
      exact ⟨a, vs, e, h1, h2, h3, h4, st.dom _ h5⟩
    | bo i => exact ok
    | bt i d => exact ok
    | ot ds d =>
      obtain ⟨T, a, vs, x, e, h1, h2, h3, h4, h5, h6, h7⟩ := ok
      exact ⟨T, a, vs, x, e, h1, h2, h3, h4, h5, h6, st.dom _ h7⟩
  | ex e ρ2 => exact fun F2 H2 cls d st2 sm ok => h F2 H2 cls d (st.trans st2) sm ok
theorem Post.fin' {o : Option RV} {Q : VK} (h : Post M W σ ρ F H (ofO o ρ1) Q) (st : Stp F H σ ρ F1 H1 σ ρ1) (sm : Sim M F1 H1 σ ρ1) : ∃ rv, o = some rv ∧ ∀ F' H' v, Alc F1 H1 F' H' → RvNew M H1 F' H' v rv → Q v H' := by
  cases o with
  | none => exact h.elim
  | some rv => exact ⟨rv, rfl, fun F' H' v al nw => h F' H' v (st.trans (al.stp _ _)) (sm.alc al) (nw.ok sm st.dom)⟩
theorem de_tOp {a b e : Expr} {ma mb : DM RV} {r : R2} {g : D → D → Option RV} (ha : DE X M W a ma) (hb : DE X M W b mb) (o : Op2 M r g) (he : ∀ ta tb, PE X a ta → PE X b tb → PE X e (tOp r ta tb)) : DE X M W e (dOp2 g ma mb) := by
  obtain ⟨ta, pa, qa⟩ := ha
  obtain ⟨tb, pb, qb⟩ := hb
  refine ⟨_, he ta tb pa pb, fun σ H F ρ Q sm h => ?_⟩
  refine qa σ H F ρ _ sm (Post.go h fun x ρ1 F1 H1 v _ st1 sm1 ok1 h1 => ?_)
  refine qb σ H1 F1 ρ1 _ sm1 (Post.go (Post.from st1 h1) fun y ρ2 F2 H2 u _ st2 sm2 ok2 h2 => ?_)
  obtain ⟨rv, e, k⟩ := Post.fin' h2 st2 sm2
  obtain ⟨d, e', l1, l2, hg⟩ := bind_some2 e
  exact o F2 H2 v u d e' rv Q sm2.sub (ok1.view st2 sm2 l1) (ok2.view0 sm2 l2) hg k
theorem de_tUn {a e : Expr} {ma : DM RV} {r : V → Hp → VK → Prop} {g : D → Option RV} (ha : DE X M W a ma) (o : Op1 M r g) (he : ∀ ta, PE X a ta → PE X e (tUn r ta)) : DE X M W e (dOp1 g ma) := by
  obtain ⟨ta, pa, qa⟩ := ha
  refine ⟨_, he ta pa, fun σ H F ρ Q sm h => ?_⟩
  refine qa σ H F ρ _ sm (Post.go h fun x ρ1 F1 H1 v _ st1 sm1 ok1 h1 => ?_)
  obtain ⟨rv, e, k⟩ := Post.fin' h1 st1 sm1
  obtain ⟨d, l1, hg⟩ := bind_some1 e
  exact o F1 H1 v d rv Q sm1.sub (ok1.view0 sm1 l1) hg k
end
end DL

/- part -/
set_option Elab.async false
set_option linter.all false
set_option maxRecDepth 100000
set_option maxHeartbeats 4000000
namespace DL
open PySem PySem.Spec PyProof.Rows L2
section
variable {M : Mx} {W : WX} {X : Cx} {F H F' H' : Hp}
theorem szle {n : Nat} (h : n ≤ 1000000) : n ≤ sizeLine := by
  rw [sizeLine_eq]
  omega
theorem szlt {n : Nat} (h : n < 1000000) : n < sizeLine := by
  rw [sizeLine_eq]
  omega
def cMul (i j : Int) : Bool := decide (i.natAbs.log2 + j.natAbs.log2 < 1000000)
def DvOk (i j : Int) : Prop := j ≠ 0 ∧ (j.natAbs.log2 < 9000 ∨ i.natAbs.log2 < 13530)
instance (i j : Int) : Decidable (DvOk i j) := inferInstanceAs (Decidable (_ ∧ _))
theorem DvOk.no {i j : Int} (h : DvOk i j) : Builtin.divisionGoesByPylong i j = false := by
  rcases h.2 with h2 | h2
  · exact PyProof.noPylong_of_log2 h2
  · have key : ¬ ((if j == 0 then 0 else j.natAbs.log2 / 30 + 1) > 300 ∧ (if i == 0 then 0 else i.natAbs.log2 / 30 + 1) > (if j == 0 then 0 else j.natAbs.log2 / 30 + 1) + 150) := by
      intro ⟨z1, z2⟩
      split at z2 <;> omega
    show (decide (_ > 300) && decide (_ > _ + 150)) = false
    rw [← Bool.decide_and]
    exact decide_eq_false key
def cDiv (i j : Int) : Bool := decide (DvOk i j)
def cPow (i j : Int) : Bool := decide (0 ≤ j ∧ j ≤ 1000000 ∧ i.natAbs < 18446744073709551616)
def addD : D → D → Option RV
  | .int i, .int j => some (.im (.int (i + j)))
  | .str a, .str b => if a.length + b.length ≤ 1000000 then some (.im (.str (a ++ b))) else none
  | .lst a, .lst b => if a.length + b.length ≤ 1000000 then some (.ow (.ls (a ++ b))) else none
  | .tup a, .tup b => if a.length + b.length ≤ 1000000 then some (.im (.tup (a ++ b))) else none
  | _, _ => none
def subD : D → D → Option RV
  | .int i, .int j => some (.im (.int (i - j)))
  | _, _ => none
def mulD : D → D → Option RV
  | .int i, .int j => if cMul i j = true then some (.im (.int (i * j))) else none
  | _, _ => none
def fdivD : D → D → Option RV
  | .int i, .int j => if cDiv i j = true then some (.im (.int (i.fdiv j))) else none
  | _, _ => none
def modD : D → D → Option RV
  | .int i, .int j => if j ≠ 0 then some (.im (.int (i.fmod j))) else none
  | _, _ => none
def powD : D → D → Option RV
  | .int i, .int j => if cPow i j = true then some (.im (.int (i ^ j.toNat))) else none
  | _, _ => none
theorem op_fdivG : OpR X (binaryOp .FloorDiv) (rI DvOk fun i j => .int (i.fdiv j)) := opI fun _ _ _ _ _ _ _ hc q => floordiv_int hc.1 q (.inl hc.no)
theorem some_ite {α : Type} {c : Prop} [Decidable c] {a r : α} (h : (if c then some a else none) = some r) : c ∧ a = r := by
  by_cases hc : c
  · rw [if_pos hc] at h
    exact ⟨hc, Option.some.inj h⟩
  · rw [if_neg hc] at h
    cases h
theorem vw_int {v : V} {i : Int} (h : Vw M F H v (.int i)) : v = .int i := by
  cases h
  rfl
theorem vw_bl {v : V} {i : Bool} (h : Vw M F H v (.bl i)) : v = .bl i := by
  cases h
  rfl
theorem vw_str {v : V} {i : Str} (h : Vw M F H v (.str i)) : v = .str i := by
  cases h
  rfl
theorem vw_non {v : V} (h : Vw M F H v .non) : v = .non := by
  cases h
  rfl
theorem vw_tup {v : V} {ds : List D} (h : Vw M F H v (.tup ds)) : ∃ a vs, v = .ref a ∧ SqT M.K F a vs ∧ Reps M F vs ds := by
  cases h with
  | tup h1 h2 => exact ⟨_, _, rfl, h1, h2⟩
theorem new_lst (sub : SubF F H) {vs : List V} {ds : List D} (r : Reps M F vs ds) {Q : VK} (k : ∀ F' H' v, Alc F H F' H' → RvNew M H F' H' v (.ow (.ls ds)) → Q v H') {p : Addr} (hp : H p = none) : Q (.ref p) (upd H p (.lst vs)) :=
  k F _ _ (Alc.new sub hp) ⟨p, _, rfl, upd_same, sub.free hp, .ls r, hp⟩
theorem new_tup (sub : SubF F H) {vs : List V} {ds : List D} (r : Reps M F vs ds) {Q : VK} (k : ∀ F' H' v, Alc F H F' H' → RvNew M H F' H' v (.im (.tup ds)) → Q v H') {p : Addr} (hp : H p = none) : Q (.ref p) (upd H p (.tup vs)) :=
  k _ _ _ (Alc.newF' sub hp) (Rep.tup (.inl (.inl upd_same)) (r.up (same_upd (sub.free hp))))
abbrev rAddA (K : PySem.W.Frag) : R2 := fun x y H Q => rI0 (fun i j => .int (i + j)) x y H Q ∨ ((∃ i j, x = .str i ∧ y = .str j ∧ i.length + j.length ≤ sizeLine ∧ Q (.str (i ++ j)) H) ∨ (rCat x y H Q ∨ rCatA K x y H Q))
theorem op_addA : OpR X (binaryOp .Add) (rAddA X.K) := op_add.or (op_add_str.or (op_cat.or op_catA))
theorem o2_add : Op2 M (rAddA M.K) addD := by
  intro F H x y d e rv Q sub hx hy hg k
  unfold addD at hg
  split at hg
  · cases hg
    rw [vw_int hx, vw_int hy]
    exact .inl ⟨_, _, rfl, rfl, k _ _ _ (Alc.refl sub) RvNew.int⟩
  · obtain ⟨hc, e⟩ := some_ite hg
    subst e
    rw [vw_str hx, vw_str hy]
    exact .inr (.inl ⟨_, _, rfl, rfl, szle hc, k _ _ _ (Alc.refl sub) RvNew.str⟩)
  · obtain ⟨hc, e⟩ := some_ite hg
    subst e
    obtain ⟨a, vs, e1, h1, r1⟩ := hx
    obtain ⟨b, ws, e2, h2, r2⟩ := hy
    exact .inr (.inr (.inl ⟨a, b, vs, ws, e1, e2, h1, h2, by rw [r1.length, r2.length]; exact szle hc, fun p hp => new_lst sub (r1.append r2) k hp⟩))
  · obtain ⟨hc, e⟩ := some_ite hg
    subst e
    obtain ⟨a, vs, e1, h1, r1⟩ := vw_tup hx
    obtain ⟨b, ws, e2, h2, r2⟩ := vw_tup hy
    subst e1 e2
    refine .inr (.inr (.inr ⟨a, b, vs, ws, rfl, rfl, sub.sqT h1, sub.sqT h2, by rw [r1.length, r2.length]; exact szle hc, fun e => ?_, fun _ e => ?_, fun _ _ p hp => new_tup sub (r1.append r2) k hp⟩))
    · refine k _ _ _ (Alc.refl sub) (Rep.tup h2 ?_)
      have l := r1.length
      rw [e] at l
      cases r1
      · exact r2
      · cases l
    · refine k _ _ _ (Alc.refl sub) (Rep.tup h1 ?_)
      have l := r2.length
      rw [e] at l
      cases r2
      · rw [List.append_nil]
        exact r1
      · cases l
  · cases hg
theorem o2_sub : Op2 M (rI0 fun i j => .int (i - j)) subD := by
  intro F H x y d e rv Q sub hx hy hg k
  unfold subD at hg
  split at hg
  · cases hg
    rw [vw_int hx, vw_int hy]
    exact ⟨_, _, rfl, rfl, k _ _ _ (Alc.refl sub) RvNew.int⟩
  · cases hg
theorem o2_mul : Op2 M (rI CMulW fun i j => .int (i * j)) mulD := by
  intro F H x y d e rv Q sub hx hy hg k
  unfold mulD at hg
  split at hg
  · obtain ⟨hc, e⟩ := some_ite hg
    subst e
    rw [vw_int hx, vw_int hy]
    have hc' : CMulW _ _ := of_decide_eq_true (p := _ + _ < 1000000) hc
    exact ⟨_, _, rfl, rfl, hc', k _ _ _ (Alc.refl sub) RvNew.int⟩
  · cases hg
theorem o2_fdiv : Op2 M (rI DvOk fun i j => .int (i.fdiv j)) fdivD := by
  intro F H x y d e rv Q sub hx hy hg k
  unfold fdivD at hg
  split at hg
  · obtain ⟨hc, e⟩ := some_ite hg
    subst e
    rw [vw_int hx, vw_int hy]
    exact ⟨_, _, rfl, rfl, of_decide_eq_true hc, k _ _ _ (Alc.refl sub) RvNew.int⟩
  · cases hg
theorem o2_mod : Op2 M (rI (fun _ j => j ≠ 0) fun i j => .int (i.fmod j)) modD := by
  intro F H x y d e rv Q sub hx hy hg k
  unfold modD at hg
  split at hg
  · obtain ⟨hc, e⟩ := some_ite hg
    subst e
    rw [vw_int hx, vw_int hy]
    exact ⟨_, _, rfl, rfl, hc, k _ _ _ (Alc.refl sub) RvNew.int⟩
  · cases hg
theorem cPow_ok {i j : Int} (h : cPow i j = true) : CPow i j := by
  have h2 : 0 ≤ j ∧ j ≤ 1000000 ∧ i.natAbs < 18446744073709551616 := of_decide_eq_true h
  exact ⟨h2.1, h2.2.1, h2.2.2⟩
theorem o2_pow : Op2 M (rI CPow fun i j => .int (i ^ j.toNat)) powD := by
  intro F H x y d e rv Q sub hx hy hg k
  unfold powD at hg
  split at hg
  · obtain ⟨hc, e⟩ := some_ite hg
    subst e
    rw [vw_int hx, vw_int hy]
    exact ⟨_, _, rfl, rfl, cPow_ok hc, k _ _ _ (Alc.refl sub) RvNew.int⟩
  · cases hg
variable {a b c : Expr} {ma mb mc : DM RV} {pos : Pos}
theorem de_add (ha : DE X M W a ma) (hb : DE X M W b mb) (hK : M.K = X.K := by rfl) : DE X M W (.BinOp a .Add b pos) (dOp2 addD ma mb) := de_tOp ha hb o2_add fun ta tb p q => by
  rw [hK]
  exact pe_op op_addA p q
theorem de_sub (ha : DE X M W a ma) (hb : DE X M W b mb) : DE X M W (.BinOp a .Sub b pos) (dOp2 subD ma mb) := de_tOp ha hb o2_sub fun ta tb p q => pe_op op_sub p q
theorem de_mul (ha : DE X M W a ma) (hb : DE X M W b mb) : DE X M W (.BinOp a .Mult b pos) (dOp2 mulD ma mb) := de_tOp ha hb o2_mul fun ta tb p q => pe_op op_mulW p q
theorem de_fdiv (ha : DE X M W a ma) (hb : DE X M W b mb) : DE X M W (.BinOp a .FloorDiv b pos) (dOp2 fdivD ma mb) := de_tOp ha hb o2_fdiv fun ta tb p q => pe_op op_fdivG p q
theorem de_mod (ha : DE X M W a ma) (hb : DE X M W b mb) : DE X M W (.BinOp a .Mod b pos) (dOp2 modD ma mb) := de_tOp ha hb o2_mod fun ta tb p q => pe_op op_modN p q
theorem de_pow (ha : DE X M W a ma) (hb : DE X M W b mb) : DE X M W (.BinOp a .Pow b pos) (dOp2 powD ma mb) := de_tOp ha hb o2_pow fun ta tb p q => pe_op op_pow p q
def negD : D → Option RV
  | .int i => some (.im (.int (-i)))
  | _ => none
theorem o1_neg : Op1 M (rU fun i => .int (-i)) negD := by
  intro F H x d rv Q sub hx hg k
  unfold negD at hg
  split at hg
  · cases hg
    rw [vw_int hx]
    exact ⟨_, rfl, k _ _ _ (Alc.refl sub) RvNew.int⟩
  · cases hg
theorem de_neg (ha : DE X M W a ma) : DE X M W (.UnaryOp .USub a pos) (dOp1 negD ma) := de_tUn ha o1_neg fun ta p => pe_un un_neg p
mutual
def toPy : D → PyData
  | .non => .none
  | .bl b => .bool b
  | .int i => .int i
  | .str s => .str s
  | .tup xs => .tuple (toPys xs)
  | .lst xs => .list (toPys xs)
  | .scr ns => .list (ns.map PyData.int)
  | .obj _ _ => .dict []
  | .fn _ => .dict []
  | .exc _ _ => .dict []
  | .tl _ xs => .list (toPys xs)
  | .xt _ _ _ => .dict []
def toPys : List D → List PyData
  | [] => []
  | d :: ds => toPy d :: toPys ds
def plain : Nat → D → Bool
  | 0, _ => false
  | _ + 1, .obj _ _ => false
  | _ + 1, .fn _ => false
  | _ + 1, .exc _ _ => false
  | _ + 1, .xt _ _ _ => false
  | n + 1, .tup xs => plains n xs
  | n + 1, .lst xs => plains n xs
  | n + 1, .tl _ xs => plains n xs
  | _ + 1, _ => true
def plains : Nat → List D → Bool
  | _, [] => true
  | n, d :: ds => plain n d && plains n ds
end
theorem dp_ints : ∀ l : List Int, DpAll M.K H (l.map V.int) (l.map PyData.int)
  | [] => .nil
  | j :: l => .cons (.int j) (dp_ints l)
mutual
theorem Rep.dp (sub : SubF F H) : ∀ (n : Nat) (d : D) (v : V), plain n d = true → Rep M F v d → Dp M.K H v (toPy d)
  | 0, _, _, h, _ => by
    unfold plain at h
    cases h
  | n + 1, .non, _, _, r => by
    cases r
    exact .non
  | n + 1, .bl b, _, _, r => by
    cases r
    exact .bl b
  | n + 1, .int b, _, _, r => by
    cases r
    exact .int b
  | n + 1, .str b, _, _, r => by
    cases r
    exact .str b
  | n + 1, .tup xs, _, h, r => by
    cases r with
    | tup h1 h2 =>
      unfold plain at h
      unfold toPy
      exact .tup (sub.sqT h1) (Reps.dp sub n xs _ h h2)
  | n + 1, .lst xs, _, h, r => by
    cases r with
    | lst h1 h2 =>
      unfold plain at h
      unfold toPy
      exact .lst (.inl (.inl (sub.go _ _ h1))) (Reps.dp sub n xs _ h h2)
  | n + 1, .scr ns, _, _, r => by
    cases r with
    | scr h1 =>
      unfold toPy
      exact .lst (sub.sqL h1) (dp_ints ns)
  | n + 1, .obj _ _, _, h, _ => by
    unfold plain at h
    cases h
  | n + 1, .fn _, _, h, _ => by
    unfold plain at h
    cases h
  | n + 1, .exc _ _, _, h, _ => by
    unfold plain at h
    cases h
  | n + 1, .xt _ _ _, _, h, _ => by
    unfold plain at h
    cases h
  | n + 1, .tl _ xs, _, h, r => by
    cases r with
    | tl h1 h2 =>
      unfold plain at h
      unfold toPy
      exact .lst (.inl (.inl (sub.bk _ _ _ h1))) (Reps.dp sub n xs _ h h2)
theorem Reps.dp (sub : SubF F H) : ∀ (n : Nat) (ds : List D) (vs : List V), plains n ds = true → Reps M F vs ds → DpAll M.K H vs (toPys ds)
  | _, [], _, _, r => by
    cases r
    exact .nil
  | n, d :: ds, _, h, r => by
    unfold plains at h
    obtain ⟨h1, h2⟩ := Bool.and_eq_true_iff.mp h
    cases r with
    | cons r1 r2 =>
      unfold toPys
      exact .cons (Rep.dp sub n d _ h1 r1) (Reps.dp sub n ds _ h2 r2)
end
end
end DL

/- part -/
set_option Elab.async false
set_option linter.all false
set_option maxRecDepth 100000
set_option maxHeartbeats 4000000
namespace DL
open PySem PySem.Spec PyProof.Rows L2
section
variable {M : Mx} {W : WX} {X : Cx} {F H F' H' F1 H1 H0 : Hp} {σ : L2.St} {ρ ρ1 : SE}
def okc (d : D) : Bool := plain 64 d && SeqAt.shaped (toPy d)
def eqv (d e : D) : Bool := PyData.eqv (toPy d) (toPy e)
def eqD (d e : D) : Option RV := if (okc d && okc e) = true then some (.im (.bl (eqv d e))) else none
def neD (d e : D) : Option RV := if (okc d && okc e) = true then some (.im (.bl (!eqv d e))) else none
theorem Vw.dp {v : V} {d : D} (s : SubF F H) (h : Vw M F H v d) (o : plain 64 d = true) : Dp M.K H v (toPy d) := by
  cases d with
  | lst ds =>
    obtain ⟨a, vs, e, h1, h2⟩ := h
    subst e
    unfold plain at o
    unfold toPy
    exact .lst (.inl (.inl h1)) (Reps.dp s 63 ds _ o h2)
  | obj c fs =>
    unfold plain at o
    cases o
  | xt k ks ds =>
    unfold plain at o
    cases o
  | _ => exact Rep.dp s 64 _ _ o h
theorem o2_eq : Op2 M (rEqD M.K) eqD := by
  intro F H x y d e rv Q sub hx hy hg k
  obtain ⟨hc, e1⟩ := some_ite hg
  subst e1
  obtain ⟨h1, h2⟩ := Bool.and_eq_true_iff.mp hc
  obtain ⟨p1, q1⟩ := Bool.and_eq_true_iff.mp h1
  obtain ⟨p2, q2⟩ := Bool.and_eq_true_iff.mp h2
  exact ⟨_, _, hx.dp sub p1, hy.dp sub p2, q1, q2, k _ _ _ (Alc.refl sub) RvNew.bl⟩
theorem o2_ne : Op2 M (rNeD M.K) neD := by
  intro F H x y d e rv Q sub hx hy hg k
  obtain ⟨hc, e1⟩ := some_ite hg
  subst e1
  obtain ⟨h1, h2⟩ := Bool.and_eq_true_iff.mp hc
  obtain ⟨p1, q1⟩ := Bool.and_eq_true_iff.mp h1
  obtain ⟨p2, q2⟩ := Bool.and_eq_true_iff.mp h2
  exact ⟨_, _, hx.dp sub p1, hy.dp sub p2, q1, q2, k _ _ _ (Alc.refl sub) RvNew.bl⟩
def ltD : D → D → Option RV
  | .int i, .int j => some (.im (.bl (decide (i < j))))
  | .str i, .str j => some (.im (.bl (decide (i.cps.toList < j.cps.toList))))
  | _, _ => none
def leD : D → D → Option RV
  | .int i, .int j => some (.im (.bl (decide (i ≤ j))))
  | _, _ => none
def gtD : D → D → Option RV
  | .int i, .int j => some (.im (.bl (decide (j < i))))
  | _, _ => none
def geD : D → D → Option RV
  | .int i, .int j => some (.im (.bl (decide (j ≤ i))))
  | _, _ => none
abbrev rLtA : R2 := fun x y H Q => rI0 (fun i j => .bl (decide (i < j))) x y H Q ∨ ∃ i j, x = .str i ∧ y = .str j ∧ Q (.bl (decide (i.cps.toList < j.cps.toList))) H
theorem op_ltA : OpR X (compareOp .Lt) rLtA := op_lt.or op_lt_str
theorem o2_lt : Op2 M rLtA ltD := by
  intro F H x y d e rv Q sub hx hy hg k
  unfold ltD at hg
  split at hg
  · cases hg
    rw [vw_int hx, vw_int hy]
    exact .inl ⟨_, _, rfl, rfl, k _ _ _ (Alc.refl sub) RvNew.bl⟩
  · cases hg
    rw [vw_str hx, vw_str hy]
    exact .inr ⟨_, _, rfl, rfl, k _ _ _ (Alc.refl sub) RvNew.bl⟩
  · cases hg
theorem o2_le : Op2 M (rI0 fun i j => .bl (decide (i ≤ j))) leD := by
  intro F H x y d e rv Q sub hx hy hg k
  unfold leD at hg
  split at hg
  · cases hg
    rw [vw_int hx, vw_int hy]
    exact ⟨_, _, rfl, rfl, k _ _ _ (Alc.refl sub) RvNew.bl⟩
  · cases hg
theorem o2_gt : Op2 M (rI0 fun i j => .bl (decide (j < i))) gtD := by
  intro F H x y d e rv Q sub hx hy hg k
  unfold gtD at hg
  split at hg
  · cases hg
    rw [vw_int hx, vw_int hy]
    exact ⟨_, _, rfl, rfl, k _ _ _ (Alc.refl sub) RvNew.bl⟩
  · cases hg
theorem o2_ge : Op2 M (rI0 fun i j => .bl (decide (j ≤ i))) geD := by
  intro F H x y d e rv Q sub hx hy hg k
  unfold geD at hg
  split at hg
  · cases hg
    rw [vw_int hx, vw_int hy]
    exact ⟨_, _, rfl, rfl, k _ _ _ (Alc.refl sub) RvNew.bl⟩
  · cases hg
def flat : D → Bool
  | .non | .bl _ | .int _ | .str _ => true
  | _ => false
def inD (neg : Bool) : D → D → Option RV
  | .str a, .str b => if a.length = 1 then some (.im (.bl (neg != decide (a.cps.getD 0 0 ∈ b.cps.toList)))) else none
  | x, .tup ds => if (flat x && ds.all flat) = true then some (.im (.bl (neg != ds.any fun y => eqv y x))) else none
  | x, .lst ds => if (okc x && okc (.lst ds)) = true then some (.im (.bl (neg != ds.any fun y => eqv y x))) else none
  | _, _ => none
theorem str_one {a : Str} (h : a.length = 1) : a = ⟨#[a.cps.getD 0 0]⟩ := by
  obtain ⟨⟨l⟩⟩ := a
  have h : l.length = 1 := h
  cases l with
  | nil => cases h
  | cons c r =>
    cases r with
    | nil => rfl
    | cons c2 r => cases h
theorem flat_rep {v : V} {d : D} (f : flat d = true) (r : Rep M F v d) : flatV v = true := by
  cases r <;> first
    | rfl
    | (unfold flat at f; cases f)
theorem flat_all : ∀ {vs : List V} {ds : List D}, ds.all flat = true → Reps M F vs ds → vs.all flatV = true
  | _, _, _, .nil => rfl
  | _, _, f, .cons r t => by
    rw [List.all_cons] at f ⊢
    obtain ⟨f1, f2⟩ := Bool.and_eq_true_iff.mp f
    rw [flat_rep f1 r, flat_all f2 t]
    rfl
theorem eqV_rep {v w : V} {d e : D} (f : flat d = true) (f2 : flat e = true) (r : Rep M F v d) (r2 : Rep M F w e) : eqV v w = eqv d e := by
  cases r <;> cases r2 <;> first
    | rfl
    | (unfold flat at f; cases f)
    | (unfold flat at f2; cases f2)
theorem any_rep {w : V} {e : D} (f2 : flat e = true) (r2 : Rep M F w e) : ∀ {vs : List V} {ds : List D}, ds.all flat = true → Reps M F vs ds → (vs.any fun y => eqV y w) = ds.any fun y => eqv y e
  | _, _, _, .nil => rfl
  | _, _, f, .cons r t => by
    rw [List.all_cons] at f
    obtain ⟨f1, f3⟩ := Bool.and_eq_true_iff.mp f
    rw [List.any_cons, List.any_cons, eqV_rep f1 f2 r r2, any_rep f2 r2 f3 t]
theorem toPys_map : ∀ ds : List D, toPys ds = ds.map toPy
  | [] => rfl
  | d :: ds => by
    unfold toPys
    rw [toPys_map ds]
    rfl
abbrev rInA (K : PySem.W.Frag) (neg : Bool) : R2 := fun x y H Q => (∃ (c : Nat) (z : Str), x = .str ⟨#[c]⟩ ∧ y = .str z ∧ Q (.bl (neg != decide (c ∈ z.cps.toList))) H) ∨ (rIn K neg x y H Q ∨ ∃ d ds, Dp K H x d ∧ Dp K H y (.list ds) ∧ SeqAt.shaped d = true ∧ SeqAt.shaped (.list ds) = true ∧ Q (.bl (neg != ds.any fun z => PyData.eqv z d)) H)
theorem op_inA (hu : X.A.units + 65 < cLine) : OpR X (compareOp .In) (rInA X.K false) := by
  refine OpR.or ?_ (OpR.or op_in_seq ?_)
  · intro pins s σ H x y v u Q I rx ry ⟨c, z, h1, h2, q⟩
    exact op_in_sign pins s σ H x y v u Q I rx ry ⟨c, z, h1, h2, by simpa using q⟩
  · intro pins s σ H x y v u Q I rx ry ⟨d, ds, h1, h2, h3, h4, q⟩
    exact op_inD hu pins s σ H x y v u Q I rx ry ⟨d, ds, h1, h2, h3, h4, by simpa using q⟩
theorem op_notInA (hu : X.A.units + 65 < cLine) : OpR X (compareOp .NotIn) (rInA X.K true) := by
  refine OpR.or ?_ (OpR.or op_notIn_seq ?_)
  · intro pins s σ H x y v u Q I rx ry ⟨c, z, h1, h2, q⟩
    exact op_notIn_sign pins s σ H x y v u Q I rx ry ⟨c, z, h1, h2, by simpa using q⟩
  · intro pins s σ H x y v u Q I rx ry ⟨d, ds, h1, h2, h3, h4, q⟩
    exact op_notInD hu pins s σ H x y v u Q I rx ry ⟨d, ds, h1, h2, h3, h4, by simpa using q⟩
theorem o2_in (neg : Bool) : Op2 M (rInA M.K neg) (inD neg) := by
  intro F H x y d e rv Q sub hx hy hg k
  unfold inD at hg
  split at hg
  · rename_i a b
    obtain ⟨hc, e1⟩ := some_ite hg
    subst e1
    have e2 := vw_str hx
    rw [str_one hc] at e2
    exact .inl ⟨_, _, e2, vw_str hy, k _ _ _ (Alc.refl sub) RvNew.bl⟩
  · rename_i ds
    obtain ⟨hc, e1⟩ := some_ite hg
    subst e1
    obtain ⟨f1, f2⟩ := Bool.and_eq_true_iff.mp hc
    obtain ⟨a, vs, ea, h1, r1⟩ := vw_tup hy
    have rx : Rep M F x d := by
      cases d <;> first
        | exact hx
        | (unfold flat at f1; cases f1)
    refine .inr (.inl ⟨a, vs, ea, .inr (sub.sqT h1), flat_rep f1 rx, flat_all f2 r1, ?_⟩)
    have q := k _ _ _ (Alc.refl sub) (RvNew.bl (i := neg != ds.any fun y => eqv y d))
    have e3 : (if neg = true then !inV x vs else inV x vs) = (neg != ds.any fun y => eqv y d) := by
      unfold inV
      rw [any_rep f1 rx f2 r1]
      cases neg <;> simp
    rw [e3]
    exact q
  · rename_i ds
    obtain ⟨hc, e1⟩ := some_ite hg
    subst e1
    obtain ⟨f1, f2⟩ := Bool.and_eq_true_iff.mp hc
    obtain ⟨p1, q1⟩ := Bool.and_eq_true_iff.mp f1
    obtain ⟨p2, q2⟩ := Bool.and_eq_true_iff.mp f2
    refine .inr (.inr ⟨_, _, hx.dp sub p1, hy.dp sub p2, q1, q2, ?_⟩)
    have q := k _ _ _ (Alc.refl sub) (RvNew.bl (i := neg != ds.any fun y => eqv y d))
    have e3 : ((toPys ds).any fun z => PyData.eqv z (toPy d)) = ds.any fun y => eqv y d := by
      rw [toPys_map, List.any_map]
      rfl
    rw [e3]
    exact q
  · cases hg
def isNone : D → Bool
  | .non => true
  | _ => false
def isND (neg : Bool) (d : D) : D → Option RV
  | .non => some (.im (.bl (neg != isNone d)))
  | _ => none
theorem vw_isNone {v : V} {d : D} (h : Vw M F H v d) : decide (v = .non) = isNone d := by
  have kn : ∀ v : V, v ≠ .non → decide (v = .non) = false := fun v hv => decide_eq_false hv
  cases d with
  | non =>
    have e := vw_non h
    subst e
    exact decide_eq_true rfl
  | lst ds =>
    obtain ⟨a, vs, e, _⟩ := h
    subst e
    exact kn _ (by intro z; cases z)
  | bl _ => exact kn _ (by rw [vw_bl h]; intro z; cases z)
  | int _ => exact kn _ (by rw [vw_int h]; intro z; cases z)
  | str _ => exact kn _ (by rw [vw_str h]; intro z; cases z)
  | tup _ =>
    cases h
    exact kn _ (by intro z; cases z)
  | scr _ =>
    cases h
    exact kn _ (by intro z; cases z)
  | obj _ _ =>
    obtain ⟨a, dx, vs, e, _⟩ := h
    subst e
    exact kn _ (by intro z; cases z)
  | tl _ _ =>
    cases h
    exact kn _ (by intro z; cases z)
  | fn _ =>
    cases h
    exact kn _ (by intro z; cases z)
  | exc _ _ =>
    cases h
    exact kn _ (by intro z; cases z)
  | xt _ _ _ =>
    obtain ⟨a, a', us, ws, e, _⟩ := h
    subst e
    exact kn _ (by intro z; cases z)
theorem o2_isN : Op2 M (fun x y H Q => y = .non ∧ Q (.bl (decide (x = .non))) H) (isND false) := by
  intro F H x y d e rv Q sub hx hy hg k
  unfold isND at hg
  split at hg
  · cases hg
    rw [vw_isNone hx]
    exact ⟨vw_non hy, by simpa using k _ _ _ (Alc.refl sub) RvNew.bl⟩
  · cases hg
theorem o2_notN : Op2 M (fun x y H Q => y = .non ∧ Q (.bl (!decide (x = .non))) H) (isND true) := by
  intro F H x y d e rv Q sub hx hy hg k
  unfold isND at hg
  split at hg
  · cases hg
    rw [vw_isNone hx]
    exact ⟨vw_non hy, by simpa using k _ _ _ (Alc.refl sub) RvNew.bl⟩
  · cases hg
variable {a b c : Expr} {ma mb mc : DM RV} {pos : Pos}
theorem de_eq (ha : DE X M W a ma) (hb : DE X M W b mb) (hu : X.A.units + 64 < cLine) (hK : M.K = X.K := by rfl) : DE X M W (.Compare a [.Eq] [b] pos) (dOp2 eqD ma mb) := de_tOp ha hb o2_eq fun ta tb p q => by
  rw [hK]
  exact pe_cmpR (op_eqD hu) p q (nomark _)
theorem de_ne (ha : DE X M W a ma) (hb : DE X M W b mb) (hu : X.A.units + 64 < cLine) (hK : M.K = X.K := by rfl) : DE X M W (.Compare a [.NotEq] [b] pos) (dOp2 neD ma mb) := de_tOp ha hb o2_ne fun ta tb p q => by
  rw [hK]
  exact pe_cmpR (op_neD hu) p q (nomark _)
theorem de_gt (ha : DE X M W a ma) (hb : DE X M W b mb) : DE X M W (.Compare a [.Gt] [b] pos) (dOp2 gtD ma mb) := de_tOp ha hb o2_gt fun ta tb p q => pe_cmpR op_gt p q (nomark _)
theorem de_isN (ha : DE X M W a ma) (hb : DE X M W b mb) : DE X M W (.Compare a [.Is] [b] pos) (dOp2 (isND false) ma mb) := de_tOp ha hb o2_isN fun ta tb p q => pe_cmpR op_isN p q (nomark _)
theorem de_in (ha : DE X M W a ma) (hb : DE X M W b mb) (hu : X.A.units + 65 < cLine) (hm : behindInMarks .In b = false := by rfl) (hK : M.K = X.K := by rfl) : DE X M W (.Compare a [.In] [b] pos) (dOp2 (inD false) ma mb) := de_tOp ha hb (o2_in false) fun ta tb p q => by
  rw [hK]
  exact pe_cmpR (op_inA hu) p q hm
theorem de_notIn (ha : DE X M W a ma) (hb : DE X M W b mb) (hu : X.A.units + 65 < cLine) (hm : behindInMarks .NotIn b = false := by rfl) (hK : M.K = X.K := by rfl) : DE X M W (.Compare a [.NotIn] [b] pos) (dOp2 (inD true) ma mb) := de_tOp ha hb (o2_in true) fun ta tb p q => by
  rw [hK]
  exact pe_cmpR (op_notInA hu) p q hm
def dChain (g g' : D → D → Option RV) (ma mb mc : DM RV) : DM RV := fun ρ => (ma ρ).bind fun x ρ1 => (mb ρ1).bind fun y ρ2 => match (look ρ2 x).bind fun d => (look ρ2 y).bind fun e => g d e with
  | some (.im (.bl false)) => .ok (.im (.bl false)) ρ2
  | some (.im (.bl true)) => (mc ρ2).bind fun z ρ3 => ofO ((look ρ3 y).bind fun d => (look ρ3 z).bind fun e => g' d e) ρ3
  | _ => .bad
theorem de_chain {op op' : CmpOp} {r r' : R2} {g g' : D → D → Option RV} (ho : OpR X (compareOp op) r) (ho' : OpR X (compareOp op') r') (o : Op2 M r g) (o' : Op2 M r' g') (ha : DE X M W a ma) (hb : DE X M W b mb) (hc : DE X M W c mc) (hpc : ∀ ta tb tc, PE X a ta → PE X b tb → PE X c tc → PE X (.Compare a [op, op'] [b, c] pos) (tChain r r' ta tb tc)) : DE X M W (.Compare a [op, op'] [b, c] pos) (dChain g g' ma mb mc) := by
  obtain ⟨ta, pa, qa⟩ := ha
  obtain ⟨tb, pb, qb⟩ := hb
  obtain ⟨tc, pc, qc⟩ := hc
  refine ⟨_, hpc ta tb tc pa pb pc, fun σ H F ρ Q sm h => ?_⟩
  refine qa σ H F ρ _ sm (Post.go h fun x ρ1 F1 H1 v _ st1 sm1 ok1 h1 => ?_)
  refine qb σ H1 F1 ρ1 _ sm1 (Post.go (Post.from st1 h1) fun y ρ2 F2 H2 u _ st2 sm2 ok2 h2 => ?_)
  split at h2
  · rename_i e
    obtain ⟨d, e', l1, l2, hg⟩ := bind_some2 e
    refine o F2 H2 v u d e' _ _ sm2.sub (ok1.view st2 sm2 l1) (ok2.view0 sm2 l2) hg fun F' H' z al nw => ?_
    cases nw
    exact ⟨false, rfl, by
      rw [if_neg Bool.false_ne_true]
      exact h2 F' H' _ (st2.trans (al.stp _ _)) (sm2.alc al) (Rep.bl false)⟩
  · rename_i e
    obtain ⟨d, e', l1, l2, hg⟩ := bind_some2 e
    refine o F2 H2 v u d e' _ _ sm2.sub (ok1.view st2 sm2 l1) (ok2.view0 sm2 l2) hg fun F' H' z al nw => ?_
    cases nw
    refine ⟨true, rfl, ?_⟩
    rw [if_pos rfl]
    refine qc σ H' F' ρ2 _ (sm2.alc al) (Post.go (Post.from ((st2.trans (al.stp _ _))) h2) fun zr ρ3 F3 H3 w _ st3 sm3 ok3 h3 => ?_)
    obtain ⟨rv, e3, k⟩ := Post.fin' h3 st3 sm3
    obtain ⟨d2, e2, l3, l4, hg2⟩ := bind_some2 e3
    exact o' F3 H3 u w d2 e2 rv Q sm3.sub (ok2.view ((al.stp _ _).trans st3) sm3 l3) (ok3.view0 sm3 l4) hg2 k
  · exact h2.elim
end
end DL

/- part -/
set_option Elab.async false
set_option linter.all false
set_option maxRecDepth 100000
set_option maxHeartbeats 4000000
namespace DL
open PySem PySem.Spec PyProof.Rows L2
section
variable {M : Mx} {W : WX} {X : Cx} {F H F' H' F1 H1 H0 : Hp} {σ : L2.St} {ρ ρ1 : SE}
variable {a b c e : Expr} {ma mb mc m : DM RV} {mt mu : DM Bool} {pos : Pos}
def asB (r : RV) (ρ : SE) : R Bool := match r with
  | .im (.bl b) => .ok b ρ
  | _ => .bad
theorem PostT.go {r : R RV} {Q : Bool → Hp → Prop} (h : PostT M W σ ρ F H (r.bind asB) Q) : Post M W σ ρ F H r (fun v H' => ∃ k, v = .bl k ∧ Q k H') := by
  cases r with
  | bad => exact h
  | ok a ρ1 =>
    cases a with
    | im d =>
      cases d with
      | bl b =>
        intro F1 H1 v st sm ok
        cases ok
        exact ⟨b, rfl, h F1 H1 st sm⟩
      | _ => exact h.elim
    | _ => exact h.elim
  | ex e ρ1 => exact h
theorem PostT.step {r : R Bool} {Q : Bool → Hp → Prop} {g : Bool → SE → R Bool} (h : PostT M W σ ρ F H (r.bind g) Q) {Q' : Bool → Hp → Prop}
    (k : ∀ a ρ1 F1 H1, r = .ok a ρ1 → Stp F H σ ρ F1 H1 σ ρ1 → Sim M F1 H1 σ ρ1 → PostT M W σ ρ F H (g a ρ1) Q → Q' a H1) : PostT M W σ ρ F H r Q' := by
  cases r with
  | bad => exact h
  | ok a ρ1 => exact fun F1 H1 st sm => k a ρ1 F1 H1 rfl st sm h
  | ex e ρ1 => exact h
theorem PostT.from {r : R Bool} {Q : Bool → Hp → Prop} (st : Stp F H σ ρ F1 H1 σ ρ1) (h : PostT M W σ ρ F H r Q) : PostT M W σ ρ1 F1 H1 r Q := by
  cases r with
  | bad => exact h
  | ok a ρ2 => exact fun F2 H2 st2 sm => h F2 H2 (st.trans st2) sm
  | ex e ρ2 => exact fun F2 H2 cls d st2 sm ok => h F2 H2 cls d (st.trans st2) sm ok
theorem PostT.goE {r : R Bool} {Q : VK} {g : Bool → SE → R RV} (h : Post M W σ ρ F H (r.bind g) Q) {Q' : Bool → Hp → Prop}
    (k : ∀ a ρ1 F1 H1, r = .ok a ρ1 → Stp F H σ ρ F1 H1 σ ρ1 → Sim M F1 H1 σ ρ1 → Post M W σ ρ F H (g a ρ1) Q → Q' a H1) : PostT M W σ ρ F H r Q' := by
  cases r with
  | bad => exact h
  | ok a ρ1 => exact fun F1 H1 st sm => k a ρ1 F1 H1 rfl st sm h
  | ex e ρ1 => exact h
theorem dt_mk {te : TE} (q : ∀ σ H F ρ Q, Sim M F H σ ρ → Post M W σ ρ F H (m ρ) Q → te σ H Q) (p : PT X e (tTest te)) : DT X M W e (fun ρ => (m ρ).bind asB) :=
  ⟨_, p, fun σ H F ρ Q sm h => q σ H F ρ _ sm (PostT.go h)⟩
theorem dt_val (h : DE X M W e m) (he : ∀ whole, isTrue e X.env whole = (do let v ← whole; standAt e.pos; holding [v] (truthy v)) := by intro _; rfl) : DT X M W e (fun ρ => (m ρ).bind asB) := by
  obtain ⟨te, p, q⟩ := h
  exact dt_mk q (pt_val p he)
theorem q_tOp {ta tb : TE} {r : R2} {g : D → D → Option RV} (qa : ∀ σ H F ρ Q, Sim M F H σ ρ → Post M W σ ρ F H (ma ρ) Q → ta σ H Q) (qb : ∀ σ H F ρ Q, Sim M F H σ ρ → Post M W σ ρ F H (mb ρ) Q → tb σ H Q) (o : Op2 M r g) :
    ∀ σ H F ρ Q, Sim M F H σ ρ → Post M W σ ρ F H (dOp2 g ma mb ρ) Q → tOp r ta tb σ H Q := fun σ H F ρ Q sm h => by
  refine qa σ H F ρ _ sm (Post.go h fun x ρ1 F1 H1 v _ st1 sm1 ok1 h1 => ?_)
  refine qb σ H1 F1 ρ1 _ sm1 (Post.go (Post.from st1 h1) fun y ρ2 F2 H2 u _ st2 sm2 ok2 h2 => ?_)
  obtain ⟨rv, e, k⟩ := Post.fin' h2 st2 sm2
  obtain ⟨d, e', l1, l2, hg⟩ := bind_some2 e
  exact o F2 H2 v u d e' rv Q sm2.sub (ok1.view st2 sm2 l1) (ok2.view0 sm2 l2) hg k
theorem dt_tOp {r : R2} {g : D → D → Option RV} {op : CmpOp} (ho : OpR X (compareOp op) r) (ha : DE X M W a ma) (hb : DE X M W b mb) (o : Op2 M r g) (hm : behindInMarks op b = false) : DT X M W (.Compare a [op] [b] pos) (fun ρ => (dOp2 g ma mb ρ).bind asB) := by
  obtain ⟨ta, pa, qa⟩ := ha
  obtain ⟨tb, pb, qb⟩ := hb
  exact dt_mk (q_tOp qa qb o) (pt_cmpR ho pa pb hm)
theorem dt_eq (ha : DE X M W a ma) (hb : DE X M W b mb) (hu : X.A.units + 64 < cLine) (hK : M.K = X.K := by rfl) : DT X M W (.Compare a [.Eq] [b] pos) (fun ρ => (dOp2 eqD ma mb ρ).bind asB) := dt_tOp (op_eqD hu) ha hb (hK ▸ o2_eq) (nomark _)
theorem dt_ne (ha : DE X M W a ma) (hb : DE X M W b mb) (hu : X.A.units + 64 < cLine) (hK : M.K = X.K := by rfl) : DT X M W (.Compare a [.NotEq] [b] pos) (fun ρ => (dOp2 neD ma mb ρ).bind asB) := dt_tOp (op_neD hu) ha hb (hK ▸ o2_ne) (nomark _)
theorem dt_lt (ha : DE X M W a ma) (hb : DE X M W b mb) : DT X M W (.Compare a [.Lt] [b] pos) (fun ρ => (dOp2 ltD ma mb ρ).bind asB) := dt_tOp op_ltA ha hb o2_lt (nomark _)
theorem dt_gt (ha : DE X M W a ma) (hb : DE X M W b mb) : DT X M W (.Compare a [.Gt] [b] pos) (fun ρ => (dOp2 gtD ma mb ρ).bind asB) := dt_tOp op_gt ha hb o2_gt (nomark _)
theorem dt_ge (ha : DE X M W a ma) (hb : DE X M W b mb) : DT X M W (.Compare a [.GtE] [b] pos) (fun ρ => (dOp2 geD ma mb ρ).bind asB) := dt_tOp op_ge ha hb o2_ge (nomark _)
theorem dt_isN (ha : DE X M W a ma) (hb : DE X M W b mb) : DT X M W (.Compare a [.Is] [b] pos) (fun ρ => (dOp2 (isND false) ma mb ρ).bind asB) := dt_tOp op_isN ha hb o2_isN (nomark _)
theorem dt_notN (ha : DE X M W a ma) (hb : DE X M W b mb) : DT X M W (.Compare a [.IsNot] [b] pos) (fun ρ => (dOp2 (isND true) ma mb ρ).bind asB) := dt_tOp op_notN ha hb o2_notN (nomark _)
theorem dt_in (ha : DE X M W a ma) (hb : DE X M W b mb) (hu : X.A.units + 65 < cLine) (hm : behindInMarks .In b = false := by rfl) (hK : M.K = X.K := by rfl) : DT X M W (.Compare a [.In] [b] pos) (fun ρ => (dOp2 (inD false) ma mb ρ).bind asB) := dt_tOp (op_inA hu) ha hb (hK ▸ o2_in false) hm
theorem dt_notIn (ha : DE X M W a ma) (hb : DE X M W b mb) (hu : X.A.units + 65 < cLine) (hm : behindInMarks .NotIn b = false := by rfl) (hK : M.K = X.K := by rfl) : DT X M W (.Compare a [.NotIn] [b] pos) (fun ρ => (dOp2 (inD true) ma mb ρ).bind asB) := dt_tOp (op_notInA hu) ha hb (hK ▸ o2_in true) hm
def dAndT (mt mu : DM Bool) : DM Bool := fun ρ => (mt ρ).bind fun c ρ1 => if c = true then mu ρ1 else .ok false ρ1
def dOrT (mt mu : DM Bool) : DM Bool := fun ρ => (mt ρ).bind fun c ρ1 => if c = true then .ok true ρ1 else mu ρ1
def dNotT (mt : DM Bool) : DM Bool := fun ρ => (mt ρ).bind fun c ρ1 => .ok (!c) ρ1
variable {rest : List Expr}
theorem dw_and1 (ha : DT X M W a mt) : DW X M W (.BoolOp .And [a] pos) mt := by
  obtain ⟨ta, pa, qa⟩ := ha
  exact ⟨ta, pw_and1 pa, qa⟩
theorem dw_or1 (ha : DT X M W a mt) : DW X M W (.BoolOp .Or [a] pos) mt := by
  obtain ⟨ta, pa, qa⟩ := ha
  exact ⟨ta, pw_or1 pa, qa⟩
theorem dw_and (ha : DT X M W a mt) (hb : DW X M W (.BoolOp .And (b :: rest) pos) mu) : DW X M W (.BoolOp .And (a :: b :: rest) pos) (dAndT mt mu) := by
  obtain ⟨ta, pa, qa⟩ := ha
  obtain ⟨tb, pb, qb⟩ := hb
  refine ⟨_, pw_and pa pb, fun σ H F ρ Q sm h => ?_⟩
  refine qa σ H F ρ _ sm (PostT.step h fun c ρ1 F1 H1 _ st1 sm1 h1 => ?_)
  cases c with
  | true => exact qb σ H1 F1 ρ1 Q sm1 (PostT.from st1 h1)
  | false => exact h1 F1 H1 st1 sm1
theorem dw_or (ha : DT X M W a mt) (hb : DW X M W (.BoolOp .Or (b :: rest) pos) mu) : DW X M W (.BoolOp .Or (a :: b :: rest) pos) (dOrT mt mu) := by
  obtain ⟨ta, pa, qa⟩ := ha
  obtain ⟨tb, pb, qb⟩ := hb
  refine ⟨_, pw_or pa pb, fun σ H F ρ Q sm h => ?_⟩
  refine qa σ H F ρ _ sm (PostT.step h fun c ρ1 F1 H1 _ st1 sm1 h1 => ?_)
  cases c with
  | false => exact qb σ H1 F1 ρ1 Q sm1 (PostT.from st1 h1)
  | true => exact h1 F1 H1 st1 sm1
theorem dt_w (h : DW X M W e mt) : DT X M W e mt := by
  obtain ⟨t, p, q⟩ := h
  exact ⟨t, p.pt, q⟩
theorem dt_not (ha : DT X M W a mt) : DT X M W (.UnaryOp .Not a pos) (dNotT mt) := by
  obtain ⟨ta, pa, qa⟩ := ha
  refine ⟨_, pt_not pa, fun σ H F ρ Q sm h => ?_⟩
  exact qa σ H F ρ _ sm (PostT.step h fun c ρ1 F1 H1 _ st1 sm1 h1 => h1 F1 H1 st1 sm1)
def dAnd (ma mb : DM RV) : DM RV := fun ρ => ((ma ρ).bind asB).bind fun c ρ1 => if c = true then mb ρ1 else .ok (.im (.bl false)) ρ1
def dNot (ma : DM RV) : DM RV := fun ρ => ((ma ρ).bind asB).bind fun c ρ1 => .ok (.im (.bl (!c))) ρ1
theorem de_one {op} (h : DE X M W a m) : DE X M W (.BoolOp op [a] pos) m := by
  obtain ⟨t, p, q⟩ := h
  exact ⟨t, pe_one p, q⟩
theorem de_and (ha : DE X M W a ma) (hb : DE X M W (.BoolOp .And (b :: rest) pos) mb) : DE X M W (.BoolOp .And (a :: b :: rest) pos) (dAnd ma mb) := by
  obtain ⟨ta, pa, qa⟩ := ha
  obtain ⟨tb, pb, qb⟩ := hb
  refine ⟨_, pe_and pa pb, fun σ H F ρ Q sm h => ?_⟩
  refine qa σ H F ρ _ sm (PostT.go (Q := fun c H1 => if c = true then tb σ H1 Q else Q (.bl false) H1) (PostT.goE h fun c ρ1 F1 H1 _ st1 sm1 h1 => ?_))
  cases c with
  | true => exact qb σ H1 F1 ρ1 Q sm1 (Post.from st1 h1)
  | false => exact h1 F1 H1 _ st1 sm1 (Rep.bl false)
theorem de_not (ha : DE X M W a ma) : DE X M W (.UnaryOp .Not a pos) (dNot ma) := by
  obtain ⟨ta, pa, qa⟩ := ha
  refine ⟨_, pe_not pa, fun σ H F ρ Q sm h => ?_⟩
  exact qa σ H F ρ _ sm (PostT.go (Q := fun c H1 => Q (.bl (!c)) H1) (PostT.goE h fun c ρ1 F1 H1 _ st1 sm1 h1 => h1 F1 H1 _ st1 sm1 (Rep.bl _)))
def dIf (mt : DM Bool) (ma mb : DM RV) : DM RV := fun ρ => (mt ρ).bind fun c ρ1 => if c = true then ma ρ1 else mb ρ1
theorem de_if (hc : DT X M W c mt) (ha : DE X M W a ma) (hb : DE X M W b mb) : DE X M W (.IfExp c a b pos) (dIf mt ma mb) := by
  obtain ⟨tc, pc, qc⟩ := hc
  obtain ⟨ta, pa, qa⟩ := ha
  obtain ⟨tb, pb, qb⟩ := hb
  refine ⟨_, pe_ifExp pc pa pb, fun σ H F ρ Q sm h => ?_⟩
  refine qc σ H F ρ _ sm (PostT.goE h fun c ρ1 F1 H1 _ st1 sm1 h1 => ?_)
  cases c with
  | true => exact qa σ H1 F1 ρ1 Q sm1 (Post.from st1 h1)
  | false => exact qb σ H1 F1 ρ1 Q sm1 (Post.from st1 h1)
def fz (r : RV) (ρ : SE) : R D := match r with
  | .im d => .ok d ρ
  | .ow oc => .ok oc.D ρ
  | .bo i => match ρ[i]? with
    | some (.ow false oc) => .ok oc.D (ρ.set i (.im oc.D))
    | _ => .bad
  | .ot _ _ => .bad
  | .bt _ _ => .bad
theorem own_set {i : Nat} {d : D} {ρ : SE} {x : Addr} (h : Own σ (ρ.set i (.im d)) x) : Own σ ρ x := by
  obtain ⟨j, ⟨io, ds, e⟩, e2⟩ := h
  refine ⟨j, ⟨io, ds, ?_⟩, e2⟩
  by_cases hj : j = i
  · subst hj
    rw [List.getElem?_set] at e
    simp only [if_true] at e
    split at e <;> cases e
  · rw [List.getElem?_set_ne (Ne.symm hj)] at e
    exact e
theorem OcRep.frz {a : Addr} {o : HO} {oc : OC} (n : F a = none) (r : OcRep M F o oc) : Rep M (upd F a o) (.ref a) oc.D := by
  cases r with
  | ls r => exact .lst upd_same (r.up (same_upd n))
  | ob r k nd => exact .obj upd_same (r.up (same_upd n)) k (nd.up (same_upd n))
  | xt r s => exact .xt upd_same (r.up (same_upd n)) (s.up (same_upd n))
theorem set_ne {i j : Nat} {x : SV} {ρ : SE} (h : j ≠ i) : (ρ.set i x)[j]? = ρ[j]? := by
  rw [List.getElem?_set_ne (Ne.symm h)]
theorem set_eq {i : Nat} {x y : SV} {ρ : SE} (h : (ρ.set i x)[i]? = some y) : y = x := by
  rw [List.getElem?_set] at h
  simp only [if_true] at h
  split at h
  · exact (Option.some.inj h).symm
  · cases h
theorem fz_ok {F0 : Hp} {ρ0 : SE} {r : RV} {v : V} {d : D} {ρ2 : SE} (st : Stp F0 H0 σ ρ0 F H σ ρ) (ok : RvOk M H0 F H σ ρ v r) (sm : Sim M F H σ ρ) (e : fz r ρ = .ok d ρ2) :
    ∃ F', Stp F0 H0 σ ρ0 F' H σ ρ2 ∧ Sim M F' H σ ρ2 ∧ Rep M F' v d ∧ Same F F' := by
  cases r with
  | im d' =>
    cases e
    exact ⟨F, st, sm, ok, Same.refl _⟩
  | ow oc =>
    cases e
    obtain ⟨a, o, e1, h1, h2, h3, h4, h5⟩ := ok
    subst e1
    have up := same_upd (o := o) h2
    refine ⟨upd F a o, ⟨st.same.trans up, st.keep, st.new, fun b o e => ?_, st.dom, st.io, st.noio⟩, ⟨⟨sm.sub.put h1 h3.nb, sm.ntb.upd h3.nt⟩, sm.tabs, sm.len, fun i d' e => ?_, fun i io ds' e => ?_, sm.inj⟩, h3.frz h2, up⟩
    · by_cases hb : b = a
      · subst hb
        exact .inr (.inr h5)
      · rw [upd_ne hb] at e
        exact st.newF b o e
    · obtain ⟨v, e1, r⟩ := sm.im i d' e
      exact ⟨v, e1, r.up up⟩
    · obtain ⟨b, ws, e1, e2, e3, e4⟩ := sm.ow i io ds' e
      refine ⟨b, ws, e1, e2, ?_, e4.up up⟩
      rw [upd_ne]
      · exact e3
      · intro z
        subst z
        exact h4 ⟨i, ⟨io, ds', e⟩, e1⟩
  | ot ds d => cases e
  | bt k d => cases e
  | bo i =>
    have e : (match ρ[i]? with
      | some (.ow false oc) => R.ok oc.D (ρ.set i (.im oc.D))
      | _ => .bad) = .ok d ρ2 := e
    split at e
    · rename_i oc hi
      cases e
      obtain ⟨_, hv⟩ := ok
      obtain ⟨a, o, e1, h1, h2, h3⟩ := sm.ow i false oc hi
      rw [hv] at e1
      cases e1
      have up := same_upd (o := o) h2
      have hown : Own σ ρ a := ⟨i, ⟨false, oc, hi⟩, hv⟩
      refine ⟨upd F a o, ⟨st.same.trans up, st.keep, fun b z => st.new b (own_set z), fun b o e => ?_, st.dom, fun j es e => ?_, fun j es e => ?_⟩, ⟨⟨sm.sub.put h1 h3.nb, sm.ntb.upd h3.nt⟩, sm.tabs, by rw [List.length_set]; exact sm.len, fun j d' e => ?_, fun j io ds' e => ?_, fun j l b hj hl => ?_⟩, h3.frz h2, up⟩
      · by_cases hb : b = a
        · subst hb
          exact .inr (st.new b hown)
        · rw [upd_ne hb] at e
          exact st.newF b o e
      · obtain ⟨e1, es', e2⟩ := st.io j es e
        refine ⟨e1, es', ?_⟩
        rw [set_ne]
        · exact e2
        · intro z
          subst z
          rw [hi] at e2
          cases e2
      · by_cases hj : j = i
        · subst hj
          cases set_eq e
        · rw [set_ne hj] at e
          exact st.noio j es e
      · by_cases hj : j = i
        · subst hj
          cases set_eq e
          exact ⟨_, hv, h3.frz h2⟩
        · rw [set_ne hj] at e
          obtain ⟨v, e1, r⟩ := sm.im j d' e
          exact ⟨v, e1, r.up up⟩
      · by_cases hj : j = i
        · subst hj
          cases set_eq e
        · rw [set_ne hj] at e
          obtain ⟨b, ws, e1, e2, e3, e4⟩ := sm.ow j io ds' e
          refine ⟨b, ws, e1, e2, ?_, e4.up up⟩
          rw [upd_ne]
          · exact e3
          · intro z
            subst z
            exact hj (sm.inj j i _ ⟨io, ds', e⟩ ⟨false, oc, hi⟩ e1 hv)
      · have w : ∀ j, isOw (ρ.set i (.im oc.D)) j → isOw ρ j := fun j ⟨io, es, e⟩ => by
          by_cases hj : j = i
          · subst hj
            cases set_eq e
          · rw [set_ne hj] at e
            exact ⟨io, es, e⟩
        exact sm.inj j l b (w j hj) (w l hl)
    · cases e
def dFz (ma : DM RV) : DM D := fun ρ => (ma ρ).bind fz
def aNil : DM (List AV) := fun ρ => .ok [] ρ
def aCons (ma : DM RV) (ms : DM (List AV)) : DM (List AV) := fun ρ => (dFz ma ρ).bind fun d ρ1 => (ms ρ1).bind fun as ρ2 => .ok (.d d :: as) ρ2
def aIo (i : Nat) (ms : DM (List AV)) : DM (List AV) := fun ρ => match ρ[i]? with
  | some (.ow _ _) => (ms ρ).bind fun as ρ2 => match ρ2[i]? with
    | some (.ow _ _) => .ok (.io i :: as) ρ2
    | _ => .bad
  | _ => .bad
theorem AvOk.up {v : V} {a : AV} (h : AvOk M F1 σ ρ1 v a) (s : Same F1 F) (k : ∀ i, a = .io i → isOw ρ i) : AvOk M F σ ρ v a := by
  cases a with
  | d d => exact Rep.up s h
  | io i => exact ⟨k i rfl, h.2⟩
variable {es : List Expr} {ms : DM (List AV)}
theorem da_nil : DA X M W [] aNil := ⟨_, pa_nil, fun σ H F ρ Q sm h => h F H [] (Stp.refl _ _ _ _) sm .nil⟩
theorem PostA.from {r : R (List AV)} {Q : List V → Hp → Prop} (st : Stp F H σ ρ F1 H1 σ ρ1) (h : PostA M W σ ρ F H r Q) : PostA M W σ ρ1 F1 H1 r Q := by
  cases r with
  | bad => exact h
  | ok a ρ2 => exact fun F2 H2 v st2 sm ok => h F2 H2 v (st.trans st2) sm ok
  | ex e ρ2 => exact fun F2 H2 cls d st2 sm ok => h F2 H2 cls d (st.trans st2) sm ok
def PostD (M : Mx) (W : WX) (σ : L2.St) (ρ : SE) (F H : Hp) (r : R D) (Q : VK) : Prop := match r with
  | .bad => False
  | .ok d ρ' => ∀ F' H' v, Stp F H σ ρ F' H' σ ρ' → Sim M F' H' σ ρ' → Rep M F' v d → Q v H'
  | .ex e ρ' => ∀ F' H' cls d, Stp F H σ ρ F' H' σ ρ' → Sim M F' H' σ ρ' → ExcOk M F' H' cls d e → W cls d σ H'
theorem PostD.go {r : R RV} {Q : VK} (h : PostD M W σ ρ F H (r.bind fz) Q) : Post M W σ ρ F H r Q := by
  cases r with
  | bad => exact h
  | ok a ρ1 =>
    intro F1 H1 v st sm ok
    have h : PostD M W σ ρ F H (fz a ρ1) Q := h
    cases e : fz a ρ1 with
    | bad =>
      rw [e] at h
      exact h.elim
    | ok d ρ2 =>
      rw [e] at h
      obtain ⟨F', st', sm', r', _⟩ := fz_ok st ok sm e
      exact h F' H1 v st' sm' r'
    | ex x ρ2 =>
      cases a with
      | im d => cases e
      | ow ds => cases e
      | ot ds d => cases e
      | bt k d => cases e
      | bo i =>
        have e : (match ρ1[i]? with
          | some (.ow false oc) => R.ok oc.D (ρ1.set i (.im oc.D))
          | _ => .bad) = .ex x ρ2 := e
        split at e <;> cases e
  | ex e ρ1 => exact h
theorem PostD.step {α : Type} {r : R D} {g : D → SE → R α} {P : R α → Prop} {Q' : VK} (hb : P .bad → False) (hx : ∀ e ρ', P (.ex e ρ') → ∀ F' H' cls d, Stp F H σ ρ F' H' σ ρ' → Sim M F' H' σ ρ' → ExcOk M F' H' cls d e → W cls d σ H') (h : P (r.bind g))
    (k : ∀ d ρ1 F1 H1 v, Stp F H σ ρ F1 H1 σ ρ1 → Sim M F1 H1 σ ρ1 → Rep M F1 v d → P (g d ρ1) → Q' v H1) : PostD M W σ ρ F H r Q' := by
  cases r with
  | bad => exact hb h
  | ok d ρ1 => exact fun F1 H1 v st sm ok => k d ρ1 F1 H1 v st sm ok h
  | ex e ρ1 => exact hx e ρ1 h
theorem q_tCons {te : TE} {t : TA} (qa : ∀ σ H F ρ Q, Sim M F H σ ρ → Post M W σ ρ F H (ma ρ) Q → te σ H Q) (qs : ∀ σ H F ρ Q, Sim M F H σ ρ → PostA M W σ ρ F H (ms ρ) Q → t σ H Q) : ∀ σ H F ρ Q, Sim M F H σ ρ → PostA M W σ ρ F H (aCons ma ms ρ) Q → tCons te t σ H Q := fun σ H F ρ Q sm h => by
  refine qa σ H F ρ _ sm (PostD.go (PostD.step (P := fun r => PostA M W σ ρ F H r Q) (fun z => z) (fun e ρ' z => z) h fun d ρ1 F1 H1 v st1 sm1 r1 h1 => ?_))
  refine qs σ H1 F1 ρ1 _ sm1 ?_
  have h2 := PostA.from st1 h1
  cases e : ms ρ1 with
  | bad =>
    rw [e] at h2
    exact h2
  | ok as ρ2 =>
    rw [e] at h2
    exact fun F2 H2 vs st2 sm2 ok2 => h2 F2 H2 _ st2 sm2 (.cons (show AvOk M F2 σ ρ2 v (.d d) from Rep.up st2.same r1) ok2)
  | ex x ρ2 =>
    rw [e] at h2
    exact h2
theorem da_cons (ha : DE X M W a ma) (hs : DA X M W es ms) (hst : starEach (a :: es) X.env = (false, eval a X.env) :: starEach es X.env := by rfl) : DA X M W (a :: es) (aCons ma ms) := by
  obtain ⟨te, pa, qa⟩ := ha
  obtain ⟨t, ps, qs⟩ := hs
  exact ⟨_, pa_cons pa ps hst, q_tCons qa qs⟩
theorem da_io (i : Nat) {x : Str} {p : Pos} (hs : DA X M W es ms) (hN : X.N[i]? = some x := by rfl) (hv : Vis X.env.scope x := by first | exact Or.inl rfl | exact Or.inr (Or.inl rfl) | exact Or.inr (Or.inr rfl)) (hd : (x == ("__debug__" : Str)) = false := by decide)
    (hcd : (x == ("__classdict__" : Str)) = false := by decide) (hst : starEach (.Name x p :: es) X.env = (false, eval (.Name x p) X.env) :: starEach es X.env := by rfl) : DA X M W (.Name x p :: es) (aIo i ms) := by
  obtain ⟨t, ps, qs⟩ := hs
  refine ⟨_, pa_cons (pe_var hN hv hd hcd) ps hst, fun σ H F ρ Q sm h => ?_⟩
  unfold aIo at h
  split at h
  · rename_i io ds e
    obtain ⟨b, vs, e1, e2, e3, e4⟩ := sm.ow i io ds e
    refine ⟨_, e1, qs σ H F ρ _ sm ?_⟩
    cases e5 : ms ρ with
    | bad =>
      rw [e5] at h
      exact h
    | ok as ρ2 =>
      rw [e5] at h
      have h : PostA M W σ ρ F H (match ρ2[i]? with
        | some (.ow _ _) => .ok (.io i :: as) ρ2
        | _ => .bad) Q := h
      split at h
      · rename_i io2 ds2 e6
        exact fun F2 H2 vs st2 sm2 ok2 => h F2 H2 _ st2 sm2 (.cons (show AvOk M F2 σ ρ2 _ (.io i) from ⟨⟨io2, ds2, e6⟩, e1⟩) ok2)
      · exact h.elim
    | ex x ρ2 =>
      rw [e5] at h
      exact h
  · exact h.elim
def avD : List AV → Option (List D)
  | [] => some []
  | .d d :: as => (avD as).map (d :: ·)
  | .io _ :: _ => none
theorem avD_ok : ∀ {as : List AV} {ds : List D} {vs : List V}, AvsOk M F σ ρ vs as → avD as = some ds → Reps M F vs ds
  | [], _, _, .nil, e => by
    cases e
    exact .nil
  | .d d :: as, ds, _, .cons h t, e => by
    unfold avD at e
    cases e2 : avD as with
    | none =>
      rw [e2] at e
      cases e
    | some ds' =>
      rw [e2] at e
      cases e
      exact .cons h (avD_ok t e2)
  | .io i :: as, _, _, .cons h t, e => by
    cases e
def dTup (ms : DM (List AV)) : DM RV := fun ρ => (ms ρ).bind fun as ρ1 => ofO ((avD as).bind fun ds => if ds.length ≤ 1000 then some (.im (.tup ds)) else none) ρ1
def dLst (ms : DM (List AV)) : DM RV := fun ρ => (ms ρ).bind fun as ρ1 => ofO ((avD as).bind fun ds => if ds.length ≤ 1000 then some (.ow (.ls ds)) else none) ρ1
theorem PostA.goE {r : R (List AV)} {Q : VK} {g : List AV → SE → R RV} (h : Post M W σ ρ F H (r.bind g) Q) {Q' : List V → Hp → Prop}
    (k : ∀ a ρ1 F1 H1 v, r = .ok a ρ1 → Stp F H σ ρ F1 H1 σ ρ1 → Sim M F1 H1 σ ρ1 → AvsOk M F1 σ ρ1 v a → Post M W σ ρ F H (g a ρ1) Q → Q' v H1) : PostA M W σ ρ F H r Q' := by
  cases r with
  | bad => exact h
  | ok a ρ1 => exact fun F1 H1 v st sm ok => k a ρ1 F1 H1 v rfl st sm ok h
  | ex e ρ1 => exact h
theorem de_tup {x1} (h : DA X M W es ms) : DE X M W (.Tuple es x1 pos) (dTup ms) := by
  obtain ⟨t, p, q⟩ := h
  refine ⟨_, pe_tup p, fun σ H F ρ Q sm h => ?_⟩
  refine q σ H F ρ _ sm (PostA.goE h fun as ρ1 F1 H1 vs _ st1 sm1 ok1 h1 => ?_)
  obtain ⟨rv, e, k⟩ := Post.fin' h1 st1 sm1
  obtain ⟨ds, e2, e3⟩ := bind_some1 e
  obtain ⟨hl, e4⟩ := some_ite e3
  subst e4
  have r := avD_ok ok1 e2
  exact ⟨by rw [r.length]; exact szle (by omega), fun p hp => new_tup sm1.sub r k hp⟩
theorem de_lst {pos : Pos} (h : DA X M W es ms) : DE X M W (.List es pos) (dLst ms) := by
  obtain ⟨t, p, q⟩ := h
  refine ⟨_, pe_lst p, fun σ H F ρ Q sm h => ?_⟩
  refine q σ H F ρ _ sm (PostA.goE h fun as ρ1 F1 H1 vs _ st1 sm1 ok1 h1 => ?_)
  obtain ⟨rv, e, k⟩ := Post.fin' h1 st1 sm1
  obtain ⟨ds, e2, e3⟩ := bind_some1 e
  obtain ⟨hl, e4⟩ := some_ite e3
  subst e4
  have r := avD_ok ok1 e2
  exact ⟨by rw [r.length]; exact szle (by omega), fun p hp => new_lst sm1.sub r k hp⟩
end
end DL

/- part -/
set_option Elab.async false
set_option linter.all false
set_option maxRecDepth 100000
set_option maxHeartbeats 4000000
namespace DL
open PySem PySem.Spec PyProof.Rows L2
section
variable {M : Mx} {W : WX} {X : Cx} {F H F' H' F1 H1 H0 : Hp} {σ : L2.St} {ρ ρ1 : SE}
variable {a b c e : Expr} {ma mb mc m : DM RV} {mt mu : DM Bool} {ms : DM (List AV)} {es : List Expr} {pos : Pos}
theorem atI_rep {vs : List V} {ds : List D} {i : Int} {d : D} (r : Reps M F vs ds) (h : atI ds i = some d) : ∃ v, atI vs i = some v ∧ Rep M F v d := by
  unfold atI at h ⊢
  rw [r.length]
  cases e : ixN ds.length i with
  | none =>
    rw [e] at h
    cases h
  | some j =>
    rw [e] at h
    exact r.get h
def ixD : D → D → Option RV
  | .lst ds, .int i => (atI ds i).map RV.im
  | .tup ds, .int i => (atI ds i).map RV.im
  | .str z, .int i => if z.length ≤ 1000000 then (atI z.cps.toList i).map fun c => RV.im (.str ⟨#[c]⟩) else none
  | .scr ns, .int i => (atI ns i).map fun n => RV.im (.int n)
  | _, _ => none
theorem map_some {α β : Type} {o : Option α} {f : α → β} {r : β} (h : o.map f = some r) : ∃ x, o = some x ∧ f x = r := by
  cases o with
  | none => cases h
  | some x => exact ⟨x, rfl, Option.some.inj h⟩
theorem o2_ix : Op2 M (rIx M.K) ixD := by
  intro F H x y d e rv Q sub hx hy hg k
  unfold ixD at hg
  split at hg
  · obtain ⟨d, h1, h2⟩ := map_some hg
    subst h2
    obtain ⟨a, vs, e1, h3, r⟩ := hx
    obtain ⟨v, h4, h5⟩ := atI_rep r h1
    exact .inl ⟨a, vs, _, v, e1, vw_int hy, .inl (.inl h3), h4, k _ _ _ (Alc.refl sub) h5⟩
  · obtain ⟨d, h1, h2⟩ := map_some hg
    subst h2
    obtain ⟨a, vs, e1, h3, r⟩ := vw_tup hx
    obtain ⟨v, h4, h5⟩ := atI_rep r h1
    exact .inr (.inl ⟨a, vs, _, v, e1, vw_int hy, sub.sqT h3, h4, k _ _ _ (Alc.refl sub) h5⟩)
  · rename_i z i
    split at hg
    · rename_i hz
      obtain ⟨d, h1, h2⟩ := map_some hg
      subst h2
      exact .inr (.inr ⟨z, _, d, vw_str hx, vw_int hy, szle hz, h1, k _ _ _ (Alc.refl sub) RvNew.str⟩)
    · cases hg
  · rename_i ns i
    obtain ⟨n, h1, h2⟩ := map_some hg
    subst h2
    cases hx with
    | scr h3 =>
      refine .inl ⟨_, _, i, .int n, rfl, vw_int hy, sub.sqL h3, ?_, k _ _ _ (Alc.refl sub) RvNew.int⟩
      unfold atI at h1 ⊢
      rw [List.length_map]
      cases e : ixN ns.length i with
      | none =>
        rw [e] at h1
        cases h1
      | some j =>
        rw [e] at h1
        have h1 : ns[j]? = some n := h1
        show (ns.map V.int)[j]? = some (V.int n)
        rw [List.getElem?_map, h1]
        rfl
  · cases hg
theorem de_ix (ha : DE X M W a ma) (hb : DE X M W b mb) (hs : PlainIx b := by exact fun _ _ => rfl) (hK : M.K = X.K := by rfl) : DE X M W (.Subscript a b pos) (dOp2 ixD ma mb) := de_tOp ha hb o2_ix fun ta tb p q => by
  rw [hK]
  exact pe_ix ix_seq p q hs
def sExpr (m : DM RV) : DM Fl := fun ρ => (m ρ).bind fun _ ρ1 => .ok .nx ρ1
def sRet (m : DM RV) : DM Fl := fun ρ => (m ρ).bind fun r ρ1 => .ok (.rt r) ρ1
def sPass : DM Fl := fun ρ => .ok .nx ρ
def sSeq (s t : DM Fl) : DM Fl := fun ρ => (s ρ).bind fun f ρ1 => match f with
  | .nx => t ρ1
  | f => .ok f ρ1
def sIf (mt : DM Bool) (s t : DM Fl) : DM Fl := fun ρ => (mt ρ).bind fun c ρ1 => if c = true then s ρ1 else t ρ1
theorem Post.goS {r : R RV} {E : Ends} {g : RV → SE → R Fl} (h : PostS M W σ ρ F H (r.bind g) E) {Q' : VK}
    (k : ∀ a ρ1 F1 H1 v, r = .ok a ρ1 → Stp F H σ ρ F1 H1 σ ρ1 → Sim M F1 H1 σ ρ1 → RvOk M H F1 H1 σ ρ1 v a → PostS M W σ ρ F H (g a ρ1) E → Q' v H1) : Post M W σ ρ F H r Q' := by
  cases r with
  | bad => exact h
  | ok a ρ1 => exact fun F1 H1 v st sm ok => k a ρ1 F1 H1 v rfl st sm ok h
  | ex e ρ1 => exact fun F' H' cls d st sm ok => h F' H' σ cls d st sm ok
theorem PostT.goS {r : R Bool} {E : Ends} {g : Bool → SE → R Fl} (h : PostS M W σ ρ F H (r.bind g) E) {Q' : Bool → Hp → Prop}
    (k : ∀ a ρ1 F1 H1, r = .ok a ρ1 → Stp F H σ ρ F1 H1 σ ρ1 → Sim M F1 H1 σ ρ1 → PostS M W σ ρ F H (g a ρ1) E → Q' a H1) : PostT M W σ ρ F H r Q' := by
  cases r with
  | bad => exact h
  | ok a ρ1 => exact fun F1 H1 st sm => k a ρ1 F1 H1 rfl st sm h
  | ex e ρ1 => exact fun F' H' cls d st sm ok => h F' H' σ cls d st sm ok
theorem RvOk.from {v : V} {r : RV} {σ1 : L2.St} (h : RvOk M H1 F' H' σ1 ρ1 v r) (dom : ∀ b, Fre H1 b → Fre H b) : RvOk M H F' H' σ1 ρ1 v r := by
  cases r with
  | im d => exact h
  | ow ds =>
    obtain ⟨a, vs, e, h1, h2, h3, h4, h5⟩ := h
    exact ⟨a, vs, e, h1, h2, h3, h4, dom _ h5⟩
  | bo i => exact h
  | bt i d => exact h
  | ot ds d =>
    obtain ⟨T, a, vs, x, e, h1, h2, h3, h4, h5, h6, h7⟩ := h
    exact ⟨T, a, vs, x, e, h1, h2, h3, h4, h5, h6, dom _ h7⟩
theorem PostS.from {r : R Fl} {E : Ends} {σ1 : L2.St} (st : Stp F H σ ρ F1 H1 σ1 ρ1) (h : PostS M W σ ρ F H r E) : PostS M W σ1 ρ1 F1 H1 r E := by
  cases r with
  | bad => exact h
  | ok f ρ2 =>
    cases f with
    | nx => exact fun F2 H2 σ2 st2 sm => h F2 H2 σ2 (st.trans st2) sm
    | bk => exact fun F2 H2 σ2 st2 sm => h F2 H2 σ2 (st.trans st2) sm
    | ct => exact fun F2 H2 σ2 st2 sm => h F2 H2 σ2 (st.trans st2) sm
    | rt r => exact fun F2 H2 σ2 v st2 sm ok => h F2 H2 σ2 v (st.trans st2) sm (ok.from st.dom)
  | ex e ρ2 => exact fun F2 H2 σ2 cls d st2 sm ok => h F2 H2 σ2 cls d (st.trans st2) sm ok
theorem ds_expr (he : DE X M W e m) (hs : swapsWith e none pos.line X.env = pure false := by rfl) : DS X M W (.Expr e pos) (sExpr m) := by
  obtain ⟨t, p, q⟩ := he
  refine ⟨_, ps_expr p hs, fun σ H F ρ E sm h => ?_⟩
  exact q σ H F ρ _ sm (Post.goS h fun r ρ1 F1 H1 v _ st1 sm1 ok1 h1 => h1 F1 H1 σ st1 sm1)
theorem ds_ret (he : DE X M W e m) : DS X M W (.Return (some e) pos) (sRet m) := by
  obtain ⟨t, p, q⟩ := he
  refine ⟨_, ps_ret p, fun σ H F ρ E sm h => ?_⟩
  exact q σ H F ρ _ sm (Post.goS h fun r ρ1 F1 H1 v _ st1 sm1 ok1 h1 => h1 F1 H1 σ v st1 sm1 ok1)
theorem dss_nil : DSs X M W [] sPass := ⟨_, pss_nil, fun σ H F ρ E sm h => h F H σ (Stp.refl _ _ _ _) sm⟩
variable {st : Stmt} {sts : List Stmt} {s t : DM Fl}
theorem dss_one (h : DS X M W st s) : DSs X M W [st] s := by
  obtain ⟨t, p, q⟩ := h
  exact ⟨t, pss_one p, q⟩
theorem dss_cons (h1 : DS X M W st s) (h2 : DSs X M W sts t) : DSs X M W (st :: sts) (sSeq s t) := by
  obtain ⟨t1, p1, q1⟩ := h1
  obtain ⟨t2, p2, q2⟩ := h2
  refine ⟨_, pss_cons p1 p2, fun σ H F ρ E sm h => ?_⟩
  refine q1 σ H F ρ _ sm ?_
  have h : PostS M W σ ρ F H ((s ρ).bind fun f ρ1 => match f with
    | .nx => t ρ1
    | f => .ok f ρ1) E := h
  cases e : s ρ with
  | bad =>
    rw [e] at h
    exact h
  | ok f ρ1 =>
    rw [e] at h
    cases f with
    | nx => exact fun F1 H1 σ1 st1 sm1 => q2 σ1 H1 F1 ρ1 E sm1 (PostS.from st1 h)
    | bk => exact h
    | ct => exact h
    | rt r => exact h
  | ex x ρ1 =>
    rw [e] at h
    exact h
theorem ds_if (hc : DT X M W c mt) (ha : DSs X M W es' s) (hb : DSs X M W es'' t) : DS X M W (.If c es' es'' pos) (sIf mt s t) := by
  obtain ⟨tc, pc, qc⟩ := hc
  obtain ⟨t1, p1, q1⟩ := ha
  obtain ⟨t2, p2, q2⟩ := hb
  refine ⟨_, ps_if pc p1 p2, fun σ H F ρ E sm h => ?_⟩
  refine qc σ H F ρ _ sm (PostT.goS h fun c ρ1 F1 H1 _ st1 sm1 h1 => ?_)
  cases c with
  | true => exact q1 σ H1 F1 ρ1 E sm1 (PostS.from st1 h1)
  | false => exact q2 σ H1 F1 ρ1 E sm1 (PostS.from st1 h1)
def stow (ρ : SE) (i : Nat) (sv : SV) : R Unit := match ρ[i]? with
  | some (.ow true _) => .bad
  | some _ => .ok () (ρ.set i sv)
  | none => .bad
def asSV (r : RV) (ρ : SE) : R SV := match r with
  | .im d => .ok (.im d) ρ
  | .ow oc => .ok (.ow false oc) ρ
  | .bo i => match ρ[i]? with
    | some (.ow false oc) => .ok (.im oc.D) (ρ.set i (.im oc.D))
    | _ => .bad
  | .ot _ _ => .bad
  | .bt _ _ => .bad
def SvOk (M : Mx) (H0 F H : Hp) (σ : L2.St) (ρ : SE) (v : V) : SV → Prop
  | .no => False
  | .im d => Rep M F v d
  | .ow false oc => ∃ a o, v = .ref a ∧ H a = some o ∧ F a = none ∧ OcRep M F o oc ∧ ¬ Own σ ρ a ∧ Fre H0 a
  | .ow true _ => False
theorem own_set' {i : Nat} {v : V} {sv : SV} {x : Addr} (h : Own (σ.set i (some v)) (ρ.set i sv) x) : Own σ ρ x ∨ (v = .ref x ∧ ∃ io ds, sv = .ow io ds) := by
  obtain ⟨j, ⟨io, ds, e⟩, e2⟩ := h
  by_cases hj : j = i
  · subst hj
    refine .inr ⟨?_, io, ds, (set_eq e).symm⟩
    rw [List.getElem?_set] at e2
    simp only [if_true] at e2
    split at e2
    · cases e2
      rfl
    · cases e2
  · rw [set_ne hj] at e
    rw [List.getElem?_set_ne (Ne.symm hj)] at e2
    exact .inl ⟨j, ⟨io, ds, e⟩, e2⟩
theorem stow_ok {F0 : Hp} {σ0 : L2.St} {ρ0 : SE} {i : Nat} {v : V} {sv : SV} {ρ2 : SE} (st : Stp F0 H0 σ0 ρ0 F H σ ρ) (ok : SvOk M H0 F H σ ρ v sv) (sm : Sim M F H σ ρ) (e : stow ρ i sv = .ok () ρ2) :
    Stp F0 H0 σ0 ρ0 F H (σ.set i (some v)) ρ2 ∧ Sim M F H (σ.set i (some v)) ρ2 := by
  have hi : ρ2 = ρ.set i sv ∧ i < ρ.length ∧ ∀ ds, ρ[i]? ≠ some (.ow true ds) := by
    unfold stow at e
    split at e
    · cases e
    · rename_i x hn e1
      cases e
      refine ⟨rfl, ?_, fun ds z => ?_⟩
      · exact (List.getElem?_eq_some_iff.mp e1).1
      · rw [e1] at z
        cases z
        exact hn ds rfl
    · cases e
  obtain ⟨rfl, hlt, hnio⟩ := hi
  have hio : ∀ ds, sv ≠ .ow true ds := fun ds z => by
    subst z
    exact ok
  have hlt' : i < σ.length := by
    rw [sm.len]
    exact hlt
  refine ⟨⟨st.same, st.keep, fun b z => ?_, st.newF, st.dom, fun j ds z => ?_, fun j ds z => ?_⟩, ⟨sm.sub0, sm.tabs, by rw [List.length_set, List.length_set]; exact sm.len, fun j d z => ?_, fun j io ds z => ?_, fun j l b hj hl z1 z2 => ?_⟩⟩
  · rcases own_set' z with z | ⟨z1, io, ds, z2⟩
    · exact st.new b z
    · subst z2 z1
      cases io with
      | true => exact (hio ds rfl).elim
      | false =>
        obtain ⟨a, vs, e1, h1, h2, h3, h4, h5⟩ := ok
        cases e1
        exact .inr h5
  · obtain ⟨e1, ds', e2⟩ := st.io j ds z
    have hj : j ≠ i := fun q => by
      subst q
      exact hnio ds' e2
    refine ⟨?_, ds', by rw [set_ne hj]; exact e2⟩
    rw [List.getElem?_set_ne (Ne.symm hj)]
    exact e1
  · by_cases hj : j = i
    · subst hj
      exact (hio ds (set_eq z).symm).elim
    · rw [set_ne hj] at z
      exact st.noio j ds z
  · by_cases hj : j = i
    · subst hj
      have z := (set_eq z).symm
      subst z
      exact ⟨v, by rw [List.getElem?_set_self hlt'], ok⟩
    · rw [set_ne hj] at z
      obtain ⟨u, e1, r⟩ := sm.im j d z
      exact ⟨u, by rw [List.getElem?_set_ne (Ne.symm hj)]; exact e1, r⟩
  · by_cases hj : j = i
    · subst hj
      have z := (set_eq z).symm
      subst z
      cases io with
      | true => exact ok.elim
      | false =>
        obtain ⟨a, vs, e1, h1, h2, h3, h4, h5⟩ := ok
        subst e1
        exact ⟨a, vs, by rw [List.getElem?_set_self hlt'], h1, h2, h3⟩
    · rw [set_ne hj] at z
      obtain ⟨b, ws, e1, e2, e3, e4⟩ := sm.ow j io ds z
      exact ⟨b, ws, by rw [List.getElem?_set_ne (Ne.symm hj)]; exact e1, e2, e3, e4⟩
  · -- two slots of one list
    have one : ∀ l : Nat, isOw (ρ.set i sv) l → (σ.set i (some v))[l]? = some (some (V.ref b)) → l = i → ¬ Own σ ρ b := fun l hl zl el => by
      subst el
      obtain ⟨io, ds, q⟩ := hl
      have q := (set_eq q).symm
      subst q
      rw [List.getElem?_set_self hlt'] at zl
      cases zl
      cases io with
      | true => exact ok.elim
      | false =>
        obtain ⟨a, vs, e1, h1, h2, h3, h4, h5⟩ := ok
        cases e1
        exact h4
    have old : ∀ l : Nat, isOw (ρ.set i sv) l → (σ.set i (some v))[l]? = some (some (V.ref b)) → l ≠ i → isOw ρ l ∧ σ[l]? = some (some (V.ref b)) := fun l ⟨io, ds, q⟩ zl el => by
      rw [set_ne el] at q
      rw [List.getElem?_set_ne (Ne.symm el)] at zl
      exact ⟨⟨io, ds, q⟩, zl⟩
    by_cases ej : j = i
    · by_cases el : l = i
      · rw [ej, el]
      · obtain ⟨o1, o2⟩ := old l hl z2 el
        exact (one j hj z1 ej ⟨l, o1, o2⟩).elim
    · by_cases el : l = i
      · obtain ⟨o1, o2⟩ := old j hj z1 ej
        exact (one l hl z2 el ⟨j, o1, o2⟩).elim
      · obtain ⟨o1, o2⟩ := old l hl z2 el
        obtain ⟨o3, o4⟩ := old j hj z1 ej
        exact sm.inj j l b o3 o1 o4 o2
theorem asSV_ok {F0 : Hp} {ρ0 : SE} {r : RV} {v : V} {sv : SV} {ρ2 : SE} (st : Stp F0 H0 σ ρ0 F H σ ρ) (ok : RvOk M H0 F H σ ρ v r) (sm : Sim M F H σ ρ) (e : asSV r ρ = .ok sv ρ2) :
    ∃ F', Stp F0 H0 σ ρ0 F' H σ ρ2 ∧ Sim M F' H σ ρ2 ∧ SvOk M H0 F' H σ ρ2 v sv := by
  cases r with
  | im d =>
    cases e
    exact ⟨F, st, sm, ok⟩
  | ow ds =>
    cases e
    exact ⟨F, st, sm, ok⟩
  | ot ds d => cases e
  | bt k d => cases e
  | bo i =>
    have e : (match ρ[i]? with
      | some (.ow false oc) => R.ok (SV.im oc.D) (ρ.set i (.im oc.D))
      | _ => .bad) = .ok sv ρ2 := e
    split at e
    · rename_i ds hi
      cases e
      have e2 : fz (.bo i) ρ = .ok ds.D (ρ.set i (.im ds.D)) := by
        show (match ρ[i]? with
          | some (.ow false oc) => R.ok oc.D (ρ.set i (.im oc.D))
          | _ => .bad) = _
        rw [hi]
      obtain ⟨F', a, b, c, _⟩ := fz_ok st ok sm e2
      exact ⟨F', a, b, c⟩
    · cases e
def sSet (i : Nat) (m : DM RV) : DM Fl := fun ρ => ((m ρ).bind asSV).bind fun sv ρ1 => (stow ρ1 i sv).bind fun _ ρ2 => .ok .nx ρ2
theorem asSV_ex {r : RV} {x : Exc} {ρ2 : SE} (e : asSV r ρ = .ex x ρ2) : False := by
  cases r with
  | im d => cases e
  | ow ds => cases e
  | ot ds d => cases e
  | bt k d => cases e
  | bo i =>
    have e : (match ρ[i]? with
      | some (.ow false oc) => R.ok (SV.im oc.D) (ρ.set i (.im oc.D))
      | _ => .bad) = .ex x ρ2 := e
    split at e <;> cases e
theorem stow_ex {i : Nat} {sv : SV} {x : Exc} {ρ2 : SE} (e : stow ρ i sv = .ex x ρ2) : False := by
  unfold stow at e
  split at e <;> cases e
theorem q_set {te : TE} {i : Nat} (q : ∀ σ H F ρ Q, Sim M F H σ ρ → Post M W σ ρ F H (m ρ) Q → te σ H Q) : ∀ σ H F ρ E, Sim M F H σ ρ → PostS M W σ ρ F H (sSet i m ρ) E → tAsg te (gName i) E σ H := fun σ H F ρ E sm h => by
  refine q σ H F ρ _ sm ?_
  cases e : m ρ with
  | bad =>
    unfold sSet at h
    rw [e] at h
    exact h
  | ex x ρ1 =>
    unfold sSet at h
    rw [e] at h
    exact fun F' H' cls d st sm ok => h F' H' σ cls d st sm ok
  | ok r ρ1 =>
    intro F1 H1 v st1 sm1 ok1
    unfold sSet at h
    rw [e] at h
    have h : PostS M W σ ρ F H ((asSV r ρ1).bind fun sv ρ1 => (stow ρ1 i sv).bind fun _ ρ2 => .ok .nx ρ2) E := h
    cases e2 : asSV r ρ1 with
    | bad =>
      rw [e2] at h
      exact h.elim
    | ex x ρ2 => exact (asSV_ex e2).elim
    | ok sv ρ2 =>
      rw [e2] at h
      obtain ⟨F2, st2, sm2, ok2⟩ := asSV_ok st1 ok1 sm1 e2
      have h : PostS M W σ ρ F H ((stow ρ2 i sv).bind fun _ ρ2 => .ok .nx ρ2) E := h
      cases e3 : stow ρ2 i sv with
      | bad =>
        rw [e3] at h
        exact h.elim
      | ex x ρ2 => exact (stow_ex e3).elim
      | ok u ρ3 =>
        rw [e3] at h
        obtain ⟨st3, sm3⟩ := stow_ok st2 ok2 sm2 e3
        exact h F2 H1 _ st3 sm3
theorem ds_set {i : Nat} {x : Str} {pos' : Pos} (he : DE X M W e m) (hN : X.N.Nodup) (hi : X.N[i]? = some x := by rfl) (hx : Loc X.env.scope x := by first | exact Or.inl rfl | exact Or.inr rfl) (hs : swapsWith e (some (.Name x pos')) pos.line X.env = pure false := by rfl)
    (hf : X.fn x = true ∨ X.env.scope.names.lookup x = some .local := by first | exact .inl rfl | exact .inr rfl) : DS X M W (.Assign [.Name x pos'] e pos) (sSet i m) := by
  obtain ⟨t, p, q⟩ := he
  exact ⟨_, ps_set hN hi hx p hs hf, q_set q⟩
end
end DL

/- part -/
set_option Elab.async false
set_option linter.all false
set_option maxRecDepth 100000
set_option maxHeartbeats 4000000
namespace DL
open PySem PySem.Spec PyProof.Rows L2
section
variable {M : Mx} {W : WX} {X : Cx} {F H F' H' F1 H1 H0 : Hp} {σ : L2.St} {ρ ρ1 : SE}
variable {a b c e : Expr} {ma mb mc m : DM RV} {mt mu : DM Bool} {ms : DM (List AV)} {es : List Expr} {pos : Pos} {s t : DM Fl}
theorem tabs_updG {T : List (Addr × Str)} {x : Addr} {o o' : HO} {oc : OC} (h : H x = some o) (r : OcRep M F o oc) (t : LamX.Tabs T H) : LamX.Tabs T (upd H x o') := fun p hp => by
  obtain ⟨ps, h1, h2, h3⟩ := t p hp
  refine ⟨ps, ?_, h2, fun pos cv hc => ?_⟩
  · rw [upd_ne]
    · exact h1
    · intro z
      rw [z, h] at h1
      cases h1
      cases r
  · obtain ⟨c, e1, e2⟩ := h3 pos cv hc
    refine ⟨c, e1, ?_⟩
    rw [upd_ne]
    · exact e2
    · intro z
      rw [z, h] at e2
      exact r.nc (Option.some.inj e2)
theorem upd_okG {F0 : Hp} {σ0 : L2.St} {ρ0 : SE} {i : Nat} {io : Bool} {ds es : OC} {x : Addr} {o' : HO} (st : Stp F0 H0 σ0 ρ0 F H σ ρ) (sm : Sim M F H σ ρ) (hi : ρ[i]? = some (.ow io ds)) (hx : σ[i]? = some (some (V.ref x))) (r : OcRep M F o' es) :
    Stp F0 H0 σ0 ρ0 F (upd H x o') σ (ρ.set i (.ow io es)) ∧ Sim M F (upd H x o') σ (ρ.set i (.ow io es)) := by
  obtain ⟨a, vs, e1, h1, h2, h3⟩ := sm.ow i io ds hi
  rw [hx] at e1
  cases e1
  have hown : Own σ ρ x := ⟨i, ⟨io, ds, hi⟩, hx⟩
  have lt : i < ρ.length := (List.getElem?_eq_some_iff.mp hi).1
  have back : ∀ j, isOw (ρ.set i (.ow io es)) j → isOw ρ j := fun j ⟨q, d, e⟩ => by
    by_cases hj : j = i
    · subst hj
      exact ⟨io, ds, hi⟩
    · rw [set_ne hj] at e
      exact ⟨q, d, e⟩
  have owb : ∀ y, Own σ (ρ.set i (.ow io es)) y → Own σ ρ y := fun y ⟨j, o, e⟩ => ⟨j, back j o, e⟩
  refine ⟨⟨st.same, fun b o hb n nt => ?_, fun b z => st.new b (owb b z), st.newF, fun b z => ?_, fun j d z => ?_, fun j d z => ?_⟩, ⟨⟨⟨fun b o hb nb => ?_, fun b n vs hb => ?_⟩, sm.ntb⟩, tabs_updG h1 h3 sm.tabs, by rw [List.length_set]; exact sm.len, fun j d z => ?_, fun j q d z => ?_, fun j l y o1 o2 => sm.inj j l y (back j o1) (back l o2)⟩⟩
  · rw [upd_ne]
    · exact st.keep b o hb n nt
    · intro z
      subst z
      rcases st.new b hown with z | z
      · exact n z
      · exact z.no hb nt
  · exact st.dom b (z.back r.nt)
  · obtain ⟨e1, d', e2⟩ := st.io j d z
    refine ⟨e1, ?_⟩
    by_cases hj : j = i
    · subst hj
      rw [hi] at e2
      cases e2
      exact ⟨es, by rw [List.getElem?_set_self lt]⟩
    · exact ⟨d', by rw [set_ne hj]; exact e2⟩
  · by_cases hj : j = i
    · subst hj
      have e := (set_eq z).symm
      cases e
      exact st.noio j ds hi
    · rw [set_ne hj] at z
      exact st.noio j d z
  · rw [upd_ne]
    · exact sm.sub.go b o hb nb
    · intro z
      subst z
      rw [h2] at hb
      cases hb
  · rw [upd_ne]
    · exact sm.sub.bk b n vs hb
    · intro z
      subst z
      rw [h2] at hb
      cases hb
  · by_cases hj : j = i
    · subst hj
      cases set_eq z
    · rw [set_ne hj] at z
      exact sm.im j d z
  · by_cases hj : j = i
    · subst hj
      have e := (set_eq z).symm
      cases e
      exact ⟨x, o', hx, upd_same, h2, r⟩
    · rw [set_ne hj] at z
      obtain ⟨b, us, e1, e2, e3, e4⟩ := sm.ow j q d z
      refine ⟨b, us, e1, ?_, e3, e4⟩
      rw [upd_ne]
      · exact e2
      · intro q2
        subst q2
        exact hj (sm.inj j i _ ⟨q, d, z⟩ ⟨io, ds, hi⟩ e1 hx)
theorem upd_ok {F0 : Hp} {σ0 : L2.St} {ρ0 : SE} {i : Nat} {io : Bool} {ds es : List D} {x : Addr} {ws : List V} (st : Stp F0 H0 σ0 ρ0 F H σ ρ) (sm : Sim M F H σ ρ) (hi : ρ[i]? = some (.ow io (.ls ds))) (hx : σ[i]? = some (some (V.ref x))) (r : Reps M F ws es) :
    Stp F0 H0 σ0 ρ0 F (upd H x (.lst ws)) σ (ρ.set i (.ow io (.ls es))) ∧ Sim M F (upd H x (.lst ws)) σ (ρ.set i (.ow io (.ls es))) := upd_okG st sm hi hx (.ls r)
def lmD (i : Nat) (g : List D → List D → Option (D × List D)) (ms : DM (List AV)) : DM RV := fun ρ => match ρ[i]? with
  | some (.ow _ (.ls _)) => (ms ρ).bind fun as ρ1 => match ρ1[i]?, avD as with
    | some (.ow io (.ls ds)), some xs => match g ds xs with
      | some (d, es) => .ok (.im d) (ρ1.set i (.ow io (.ls es)))
      | none => .bad
    | _, _ => .bad
  | _ => .bad
def LmOk (M : Mx) (r : V → List V → Hp → VK → Prop) (g : List D → List D → Option (D × List D)) : Prop := ∀ (F H : Hp) (x : Addr) (vs us : List V) (ds xs : List D) (d : D) (es : List D) (Q : VK), H x = some (.lst vs) → Reps M F vs ds → Reps M F us xs → g ds xs = some (d, es) →
  (∀ v ws, Rep M F v d → Reps M F ws es → Q v (upd H x (.lst ws))) → r (.ref x) us H Q
theorem q_lm {t : TA} {r : V → List V → Hp → VK → Prop} {g : List D → List D → Option (D × List D)} {i : Nat} (qs : ∀ σ H F ρ Q, Sim M F H σ ρ → PostA M W σ ρ F H (ms ρ) Q → t σ H Q) (o : LmOk M r g) : ∀ σ H F ρ Q, Sim M F H σ ρ → Post M W σ ρ F H (lmD i g ms ρ) Q → tBM M.K "list" r (tVar i) t σ H Q := fun σ H F ρ Q sm h => by
  unfold lmD at h
  split at h
  · rename_i io0 ds0 e0
    obtain ⟨x, vs0, e1, h1, _⟩ := sm.owl i io0 ds0 e0
    refine ⟨.ref x, e1, .inl ⟨rfl, vs0, .inl (.inl h1)⟩, qs σ H F ρ _ sm (PostA.goE h fun as ρ1 F1 H1 us _ st1 sm1 ok1 h2 => ?_)⟩
    split at h2
    · rename_i io ds xs e3 e4
      split at h2
      · rename_i d es e5
        obtain ⟨y, vs, e6, h3, h4, h5⟩ := sm1.owl i io ds e3
        rw [e1] at e6
        cases e6
        refine o F1 H1 x vs us ds xs d es Q h3 h5 (avD_ok ok1 e4) e5 fun v ws rv rw' => ?_
        obtain ⟨st2, sm2⟩ := upd_ok st1 sm1 e3 e1 rw'
        exact h2 F1 _ v st2 sm2 rv
      · exact h2.elim
    · exact h2.elim
  · exact h.elim
def gAppend (ds xs : List D) : Option (D × List D) := match xs with
  | [d] => if ds.length < 1000000 then some (.non, ds ++ [d]) else none
  | _ => none
theorem lm_append : LmOk M rAppend gAppend := by
  intro F H x vs us ds xs d es Q hx r1 r2 hg k
  unfold gAppend at hg
  split at hg
  · obtain ⟨hc, e⟩ := some_ite hg
    cases e
    cases r2 with
    | cons r3 r4 =>
      cases r4
      exact ⟨x, vs, _, rfl, rfl, hx, by rw [r1.length]; exact szlt hc, k _ _ .non (r1.append (.cons r3 .nil))⟩
  · cases hg
def NoEx {α β : Type} (g : α → SE → R β) : Prop := ∀ d ρ x ρ', g d ρ ≠ .ex x ρ'
def But (sl : List Nat) (σ σ' : L2.St) : Prop := σ'.length = σ.length ∧ ∀ j, j ∉ sl → σ'[j]? = σ[j]?
def DG (X : Cx) (M : Mx) (tg : Expr) (sl : List Nat) (gm : D → SE → R Unit) : Prop := NoEx gm ∧ ∃ t, PG X tg t ∧ ∀ v d σ H F ρ (Q : L2.St → Hp → Prop), Sim M F H σ ρ → Rep M F v d →
  (∃ ρ', gm d ρ = .ok () ρ' ∧ ∀ σ', But sl σ σ' → (∀ F0 H0 σ0 ρ0, Stp F0 H0 σ0 ρ0 F H σ ρ → Stp F0 H0 σ0 ρ0 F H σ' ρ') → Sim M F H σ' ρ' → Q σ' H) → t v σ H Q
def DGs (X : Cx) (M : Mx) (ts : List Expr) (sl : List Nat) (gm : List D → SE → R Unit) : Prop := NoEx gm ∧ ∃ t, PGs X ts t ∧ ∀ vs ds σ H F ρ (Q : L2.St → Hp → Prop), Sim M F H σ ρ → Reps M F vs ds →
  (∃ ρ', gm ds ρ = .ok () ρ' ∧ ∀ σ', But sl σ σ' → (∀ F0 H0 σ0 ρ0, Stp F0 H0 σ0 ρ0 F H σ ρ → Stp F0 H0 σ0 ρ0 F H σ' ρ') → Sim M F H σ' ρ' → Q σ' H) → t vs σ H Q
def tgName (i : Nat) (d : D) (ρ : SE) : R Unit := stow ρ i (.im d)
def tgNil (ds : List D) (ρ : SE) : R Unit := match ds with
  | [] => .ok () ρ
  | _ => .bad
def tgCons (g : D → SE → R Unit) (gs : List D → SE → R Unit) (ds : List D) (ρ : SE) : R Unit := match ds with
  | d :: r => (g d ρ).bind fun _ ρ1 => gs r ρ1
  | [] => .bad
def tgTup (n : Nat) (gs : List D → SE → R Unit) (d : D) (ρ : SE) : R Unit := match d with
  | .tup ds => if ds.length = n then gs ds ρ else .bad
  | _ => .bad
theorem tgName_ex {i : Nat} : NoEx (tgName i) := fun d ρ x ρ' e => stow_ex e
theorem dg_name (i : Nat) {x : Str} (hN : X.N.Nodup) (hi : X.N[i]? = some x := by rfl) (hx : Loc X.env.scope x := by first | exact Or.inl rfl | exact Or.inr rfl) (hf : X.fn x = true ∨ X.env.scope.names.lookup x = some .local := by first | exact .inl rfl | exact .inr rfl) : DG X M (.Name x pos) [i] (tgName i) := by
  refine ⟨tgName_ex, _, pg_name hN hi hx hf, fun v d σ H F ρ Q sm r ⟨ρ', e, k⟩ => ?_⟩
  have ok : SvOk M H F H σ ρ v (.im d) := r
  exact k _ ⟨List.length_set .., fun j hj => by rw [List.getElem?_set_ne (fun z => hj (by rw [z]; exact List.mem_cons_self))]⟩ (fun F0 H0 σ0 ρ0 st => (stow_ok (sv := .im d) st r sm e).1) (stow_ok (Stp.refl _ _ _ _) ok sm e).2
theorem dgs_nil : DGs X M [] [] tgNil := by
  refine ⟨fun d ρ x ρ' e => ?_, _, pgs_nil, fun vs ds σ H F ρ Q sm r ⟨ρ', e, k⟩ => ?_⟩
  · cases d <;> cases e
  cases r with
  | nil =>
    cases e
    exact ⟨rfl, k σ ⟨rfl, fun _ _ => rfl⟩ (fun _ _ _ _ st => st) sm⟩
  | cons _ _ => cases e
variable {sl sl2 : List Nat} {tg : Expr} {tgs : List Expr} {gm : D → SE → R Unit} {gms : List D → SE → R Unit}
theorem R.bind_ok {α β : Type} {r : R α} {f : α → SE → R β} {b : β} {ρ' : SE} (h : r.bind f = .ok b ρ') : ∃ a ρ1, r = .ok a ρ1 ∧ f a ρ1 = .ok b ρ' := by
  cases r with
  | bad => cases h
  | ok a ρ1 => exact ⟨a, ρ1, rfl, h⟩
  | ex e ρ1 => cases h
theorem dgs_cons (h1 : DG X M tg sl gm) (h2 : DGs X M tgs sl2 gms) (hs : (assignEach (tg :: tgs) X.env).map (·.2) = assign tg X.env :: (assignEach tgs X.env).map (·.2) := by rfl) : DGs X M (tg :: tgs) (sl ++ sl2) (tgCons gm gms) := by
  obtain ⟨x1, t1, p1, q1⟩ := h1
  obtain ⟨x2, t2, p2, q2⟩ := h2
  refine ⟨fun d ρ x ρ' e => ?_, _, pgs_cons p1 p2 hs, fun vs ds σ H F ρ Q sm r ⟨ρ', e, k⟩ => ?_⟩
  · cases d with
    | nil => cases e
    | cons d ds =>
      have e : (gm d ρ).bind (fun _ ρ1 => gms ds ρ1) = .ex x ρ' := e
      cases e1 : gm d ρ with
      | bad =>
        rw [e1] at e
        cases e
      | ex y ρ1 => exact x1 _ _ _ _ e1
      | ok u ρ1 =>
        rw [e1] at e
        exact x2 _ _ _ _ e
  cases r with
  | nil => cases e
  | @cons v vs d ds r rs =>
    obtain ⟨_, ρ1, e1, e2⟩ := R.bind_ok (show (gm d ρ).bind (fun _ ρ1 => gms ds ρ1) = _ from e)
    refine ⟨v, vs, rfl, q1 v d σ H F ρ _ sm r ⟨ρ1, e1, fun σ1 bu1 st1 sm1 => ?_⟩⟩
    exact q2 vs ds σ1 H F ρ1 Q sm1 rs ⟨ρ', e2, fun σ2 bu2 st2 sm2 => k σ2 ⟨bu2.1.trans bu1.1, fun j hj => (bu2.2 j fun z => hj (List.mem_append_right _ z)).trans (bu1.2 j fun z => hj (List.mem_append_left _ z))⟩ (fun F0 H0 σ0 ρ0 st => st2 _ _ _ _ (st1 _ _ _ _ st)) sm2⟩
theorem dg_tup {k : Nat} {n : Nat} (hc : X.calm = true) (h : DGs X M tgs sl gms) (hn : (assignEach tgs X.env).length = n := by rfl) (hst : (assignEach tgs X.env).findIdx? (·.1) = none := by rfl) (hK : M.K = X.K := by rfl) : DG X M (.Tuple tgs k pos) sl (tgTup n gms) := by
  obtain ⟨x1, t, p, q⟩ := h
  refine ⟨fun d ρ x ρ' e => ?_, _, pg_tup hc p hn hst, fun v d σ H F ρ Q sm r ⟨ρ', e, kk⟩ => ?_⟩
  · unfold tgTup at e
    split at e
    · split at e
      · exact x1 _ _ _ _ e
      · cases e
    · cases e
  cases r with
  | @tup a vs ds h1 h2 =>
    have e : (if ds.length = n then gms ds ρ else .bad) = .ok () ρ' := e
    split at e
    · rename_i hl
      exact ⟨_, _, rfl, by rw [← hK]; exact sm.sub.sqT h1, by rw [h2.length]; exact hl, q _ _ σ H F ρ Q sm h2 ⟨ρ', e, kk⟩⟩
    · cases e
  | _ => cases e
def sAsg (gm : D → SE → R Unit) (m : DM RV) : DM Fl := fun ρ => (dFz m ρ).bind fun d ρ1 => (gm d ρ1).bind fun _ ρ2 => .ok .nx ρ2
theorem gm_ok {α : Type} {gm : D → SE → R Unit} {f : Unit → SE → R α} {d : D} {ρ1 : SE} {P : R α → Prop} (hx : NoEx gm) (hb : P .bad → False) (h : P ((gm d ρ1).bind f)) : ∃ ρ2, gm d ρ1 = .ok () ρ2 ∧ P (f () ρ2) := by
  cases e : gm d ρ1 with
  | bad =>
    rw [e] at h
    exact (hb h).elim
  | ok u ρ2 =>
    rw [e] at h
    exact ⟨ρ2, rfl, h⟩
  | ex x ρ2 => exact (hx _ _ _ _ e).elim
theorem ds_asg (he : DE X M W e m) (hg : DG X M tg sl gm) (hs : swapsWithSole [tg] e pos.line X.env = pure false := by rfl) (hw : swappedStores [tg] e X.env = pure none := by rfl)
    (h1 : (assignEach [tg] X.env).map (·.2) = [assign tg X.env] := by rfl) : DS X M W (.Assign [tg] e pos) (sAsg gm m) := by
  obtain ⟨t, p, q⟩ := he
  obtain ⟨x1, tg', pg, qg⟩ := hg
  refine ⟨_, ps_asg p pg hs hw h1, fun σ H F ρ E sm h => ?_⟩
  refine q σ H F ρ _ sm (PostD.go (PostD.step (P := fun r => PostS M W σ ρ F H r E) (fun z => z) (fun e ρ' z F' H' cls d st sm ok => z F' H' σ cls d st sm ok) h fun d ρ1 F1 H1 v st1 sm1 r1 h1 => ?_))
  obtain ⟨ρ2, e2, h2⟩ := gm_ok (P := fun r => PostS M W σ ρ F H r E) x1 (fun z => z) h1
  exact qg v d σ H1 F1 ρ1 _ sm1 r1 ⟨ρ2, e2, fun σ2 _ st2 sm2 => h2 F1 H1 σ2 (st2 _ _ _ _ st1) sm2⟩
def sPar (i j : Nat) (ms : DM (List AV)) : DM Fl := fun ρ => (ms ρ).bind fun as ρ1 => match as with
  | [.d d, .d e] => (stow ρ1 i (.im d)).bind fun _ ρ2 => (stow ρ2 j (.im e)).bind fun _ ρ3 => .ok .nx ρ3
  | _ => .bad
theorem PostA.goS {r : R (List AV)} {E : Ends} {g : List AV → SE → R Fl} (h : PostS M W σ ρ F H (r.bind g) E) {Q' : List V → Hp → Prop}
    (k : ∀ a ρ1 F1 H1 v, r = .ok a ρ1 → Stp F H σ ρ F1 H1 σ ρ1 → Sim M F1 H1 σ ρ1 → AvsOk M F1 σ ρ1 v a → PostS M W σ ρ F H (g a ρ1) E → Q' v H1) : PostA M W σ ρ F H r Q' := by
  cases r with
  | bad => exact h
  | ok a ρ1 => exact fun F1 H1 v st sm ok => k a ρ1 F1 H1 v rfl st sm ok h
  | ex e ρ1 => exact fun F' H' cls d st sm ok => h F' H' σ cls d st sm ok
theorem ds_par {i j : Nat} {x y : Str} {px py pt : Pos} {kt k2 pt2} (ha : DA X M W [a, b] ms) (hc : X.calm = true) (hN : X.N.Nodup) (hi : X.N[i]? = some x := by rfl) (hj : X.N[j]? = some y := by rfl) (hij : i ≠ j := by decide)
    (hx : X.env.scope.names.lookup x = some .local := by rfl) (hy : X.env.scope.names.lookup y = some .local := by rfl)
    (hw : swappedStores [.Tuple [.Name x px, .Name y py] kt pt] (.Tuple [a, b] k2 pt2) X.env = pure (some [x, y]) := by rfl)
    (hs : swapsWithSole [.Tuple [.Name x px, .Name y py] kt pt] (.Tuple [a, b] k2 pt2) pos.line X.env = pure false := by rfl) : DS X M W (.Assign [.Tuple [.Name x px, .Name y py] kt pt] (.Tuple [a, b] k2 pt2) pos) (sPar i j ms) := by
  obtain ⟨t, p, q⟩ := ha
  refine ⟨_, ps_par hc hN hi hj hij hx hy p hw hs, fun σ H F ρ E sm h => ?_⟩
  refine q σ H F ρ _ sm (PostA.goS h fun as ρ1 F1 H1 vs e0 st1 sm1 ok1 h1 => ?_)
  clear e0
  split at h1
  · rename_i d e
    cases ok1 with
    | cons r1 ok1 =>
      cases ok1 with
      | cons r2 ok1 =>
        cases ok1
        rename_i v w
        have r1 : Rep M F1 v d := r1
        have r2 : Rep M F1 w e := r2
        obtain ⟨ρ2, e2, h2⟩ := gm_ok (gm := fun d ρ => stow ρ i (.im d)) (d := d) (P := fun r => PostS M W σ ρ F H r E) (fun _ _ _ _ z => stow_ex z) (fun z => z) h1
        obtain ⟨ρ3, e3, h3⟩ := gm_ok (gm := fun d ρ => stow ρ j (.im d)) (d := e) (P := fun r => PostS M W σ ρ F H r E) (fun _ _ _ _ z => stow_ex z) (fun z => z) h2
        obtain ⟨st2, sm2⟩ := stow_ok (v := v) (sv := .im d) st1 r1 sm1 e2
        obtain ⟨st3, sm3⟩ := stow_ok (v := w) (sv := .im e) st2 r2 sm2 e3
        exact ⟨v, w, rfl, h3 F1 H1 _ st3 sm3⟩
  · exact h1.elim
def sAug (i : Nat) (g : D → D → Option RV) (m : DM RV) : DM Fl := fun ρ => match ρ[i]? with
  | some (.im d) => (m ρ).bind fun r ρ1 => match (look ρ1 r).bind fun e => g (unl d) e with
    | some (.im f) => (stow ρ1 i (.im f)).bind fun _ ρ2 => .ok .nx ρ2
    | _ => .bad
  | _ => .bad
def Ip2 (M : Mx) (r : TIp) (g : D → D → Option RV) : Prop := ∀ (F H : Hp) (x y : V) (d e : D) (f : D) (Q : VK), SubF F H → Vw M F H x d → Vw M F H y e → g d e = some (.im f) → (∀ F' H' v, Alc F H F' H' → Rep M F' v f → Q v H') → r x y H Q
theorem ds_aug {i : Nat} {x : Str} {pos' : Pos} {op : Operator} {r : TIp} {g : D → D → Option RV} (ho : PIp X op r) (o : Ip2 M r g) (he : DE X M W e m) (hN : X.N.Nodup) (hi : X.N[i]? = some x := by rfl) (hx : Loc X.env.scope x := by first | exact Or.inl rfl | exact Or.inr rfl) (hf : X.fn x = true ∨ X.env.scope.names.lookup x = some .local := by first | exact .inl rfl | exact .inr rfl) :
    DS X M W (.AugAssign (.Name x pos') op e pos) (sAug i g m) := by
  obtain ⟨t, p, q⟩ := he
  refine ⟨_, ps_aug hN hi hx p ho hf, fun σ H F ρ E sm h => ?_⟩
  unfold sAug at h
  split at h
  · rename_i d e0
    obtain ⟨v, e1, r1⟩ := sm.im i d e0
    refine ⟨v, e1, q σ H F ρ _ sm (Post.goS h fun a ρ1 F1 H1 u _ st1 sm1 ok1 h1 => ?_)⟩
    split at h1
    · rename_i f e2
      obtain ⟨e3, l, hg⟩ := bind_some1 e2
      refine o F1 H1 v u (unl d) e3 f _ sm1.sub (Vw.of sm1.sub (r1.up st1.same)) (ok1.view0 sm1 l) hg fun F2 H2 w al r2 => ?_
      obtain ⟨ρ2, e4, h2⟩ := gm_ok (gm := fun d ρ => stow ρ i (.im d)) (d := f) (P := fun r => PostS M W σ ρ F H r E) (fun _ _ _ _ z => stow_ex z) (fun z => z) h1
      obtain ⟨st2, sm2⟩ := stow_ok (v := w) (sv := .im f) (st1.trans (al.stp _ _)) r2 (sm1.alc al) e4
      exact h2 F2 H2 _ st2 sm2
    · exact h1.elim
  · exact h.elim
def addI : D → D → Option RV
  | .int i, .int j => some (.im (.int (i + j)))
  | _, _ => none
theorem ip2_add : Ip2 M (ipI fun i j => i + j) addI := by
  intro F H x y d e f Q sub hx hy hg k
  unfold addI at hg
  split at hg
  · cases hg
    rw [vw_int hx, vw_int hy]
    exact ⟨_, _, rfl, rfl, k _ _ _ (Alc.refl sub) (.int _)⟩
  · cases hg
def sSub (i : Nat) (mk me : DM RV) : DM Fl := fun ρ => (dFz me ρ).bind fun d ρ1 => match ρ1[i]? with
  | some (.ow _ (.ls _)) => (mk ρ1).bind fun r ρ2 => match ρ2[i]?, r with
    | some (.ow io (.ls ds)), .im (.int k) => match ixN ds.length k with
      | some j => .ok .nx (ρ2.set i (.ow io (.ls (ds.set j d))))
      | none => .bad
    | _, _ => .bad
  | _ => .bad
theorem ds_sub {k : Expr} {mk : DM RV} {i : Nat} {x : Str} {p' tpos : Pos} (he : DE X M W e m) (hk : DE X M W k mk) (hN : X.N[i]? = some x := by rfl) (hv : Vis X.env.scope x := by first | exact Or.inl rfl | exact Or.inr (Or.inl rfl) | exact Or.inr (Or.inr rfl)) (hd : (x == ("__debug__" : Str)) = false := by decide)
    (hcd : (x == ("__classdict__" : Str)) = false := by decide)
    (ha : ∀ v, assign (.Subscript (.Name x p') k tpos) X.env v = (do
      let ov ← holding [v] (eval (.Name x p') X.env)
      let iv ← holding [v, ov] (eval k X.env)
      standAt tpos
      holding [v, ov, iv] (setItem ov iv v)
      release [v, ov, iv] []) := by intro _; rfl) (hs : swapsWithSole [.Subscript (.Name x p') k tpos] e pos.line X.env = pure false := by rfl) (hw : swappedStores [.Subscript (.Name x p') k tpos] e X.env = pure none := by rfl)
    (h1 : (assignEach [.Subscript (.Name x p') k tpos] X.env).map (·.2) = [assign (.Subscript (.Name x p') k tpos) X.env] := by rfl) : DS X M W (.Assign [.Subscript (.Name x p') k tpos] e pos) (sSub i mk m) := by
  obtain ⟨t, p, q⟩ := he
  obtain ⟨tk, pk, qk⟩ := hk
  refine ⟨_, ps_asg p (pg_sub (pe_var hN hv hd hcd) pk set_list ha) hs hw h1, fun σ H F ρ E sm h => ?_⟩
  refine q σ H F ρ _ sm (PostD.go (PostD.step (P := fun r => PostS M W σ ρ F H r E) (fun z => z) (fun e ρ' z F' H' cls d st sm ok => z F' H' σ cls d st sm ok) h fun d ρ1 F1 H1 v st1 sm1 r1 h1 => ?_))
  split at h1
  · rename_i io0 ds0 e0
    obtain ⟨y, vs0, e1, _⟩ := sm1.owl i io0 ds0 e0
    refine ⟨.ref y, e1, qk σ H1 F1 ρ1 _ sm1 (Post.goS (PostS.from st1 h1) fun r ρ2 F2 H2 u e2 st2 sm2 ok2 h2 => ?_)⟩
    clear e2
    split at h2
    · rename_i io ds kk e3
      split at h2
      · rename_i j e4
        obtain ⟨z, vs, e5, h3, h4, h5⟩ := sm2.owl i io ds e3
        rw [e1] at e5
        cases e5
        cases ok2
        refine ⟨y, vs, kk, j, rfl, rfl, h3, by rw [h5.length]; exact e4, ?_⟩
        obtain ⟨st3, sm3⟩ := upd_ok st2 sm2 e3 e1 (Reps.set (r1.up st2.same) j h5)
        exact h2 F2 _ σ st3 sm3
      · exact h2.elim
    · exact h2.elim
  · exact h1.elim
theorem tgNil_ex : NoEx tgNil := fun d ρ x ρ' e => by
  cases d <;> cases e
theorem tgCons_ex {g : D → SE → R Unit} {gs : List D → SE → R Unit} (h1 : NoEx g) (h2 : NoEx gs) : NoEx (tgCons g gs) := fun d ρ x ρ' e => by
  cases d with
  | nil => cases e
  | cons d ds =>
    have e : (g d ρ).bind (fun _ ρ1 => gs ds ρ1) = .ex x ρ' := e
    cases e1 : g d ρ with
    | bad =>
      rw [e1] at e
      cases e
    | ex y ρ1 => exact h1 _ _ _ _ e1
    | ok u ρ1 =>
      rw [e1] at e
      exact h2 _ _ _ _ e
theorem tgTup_ex {n : Nat} {gs : List D → SE → R Unit} (h : NoEx gs) : NoEx (tgTup n gs) := fun d ρ x ρ' e => by
  unfold tgTup at e
  split at e
  · split at e
    · exact h _ _ _ _ e
    · cases e
  · cases e
end
end DL

/- part -/
set_option Elab.async false
set_option linter.all false
set_option maxRecDepth 100000
set_option maxHeartbeats 4000000
namespace DL
open PySem PySem.Spec PyProof.Rows L2
section
variable {M : Mx} {W : WX} {X : Cx} {F H F' H' F1 H1 H0 : Hp} {σ : L2.St} {ρ ρ1 : SE}
variable {a b c e : Expr} {ma mb mc m : DM RV} {mt mu : DM Bool} {ms : DM (List AV)} {es : List Expr} {pos : Pos} {s t : DM Fl}
def wloop (c : DM Bool) (b : DM Fl) : Nat → SE → R Fl
  | 0, _ => .bad
  | n + 1, ρ => (c ρ).bind fun k ρ1 => if k = true then (b ρ1).bind fun f ρ2 => match f with
      | .nx => wloop c b n ρ2
      | .ct => wloop c b n ρ2
      | .bk => .ok .nx ρ2
      | .rt r => .ok (.rt r) ρ2
    else .ok .nx ρ1
def isBad {α : Type} : R α → Bool
  | .bad => true
  | _ => false
open Classical in
noncomputable def sWhile (c : DM Bool) (b : DM Fl) : DM Fl := fun ρ => if h : ∃ n, isBad (wloop c b n ρ) = false then wloop c b (Classical.choose h) ρ else .bad
theorem wloop_up {c : DM Bool} {b : DM Fl} : ∀ (n : Nat) (ρ : SE), isBad (wloop c b n ρ) = false → wloop c b (n + 1) ρ = wloop c b n ρ
  | 0, ρ, h => by cases h
  | n + 1, ρ, h => by
    unfold wloop at h ⊢
    cases e : c ρ with
    | bad => rfl
    | ex x ρ1 => rfl
    | ok k ρ1 =>
      rw [e] at h
      show (if k = true then _ else _) = (if k = true then _ else _)
      have h : isBad (if k = true then (b ρ1).bind fun f ρ2 => match f with
          | .nx => wloop c b n ρ2
          | .ct => wloop c b n ρ2
          | .bk => .ok .nx ρ2
          | .rt r => .ok (.rt r) ρ2
        else .ok .nx ρ1) = false := h
      cases k with
      | false => rfl
      | true =>
        rw [if_pos rfl] at h ⊢
        rw [if_pos rfl]
        cases e2 : b ρ1 with
        | bad => rfl
        | ex x ρ2 => rfl
        | ok f ρ2 =>
          rw [e2] at h
          cases f with
          | nx => exact wloop_up n ρ2 h
          | ct => exact wloop_up n ρ2 h
          | bk => rfl
          | rt r => rfl
theorem wloop_le {c : DM Bool} {b : DM Fl} {n : Nat} {ρ : SE} (h : isBad (wloop c b n ρ) = false) : ∀ k, wloop c b (n + k) ρ = wloop c b n ρ
  | 0 => rfl
  | k + 1 => by
    have ih := wloop_le h k
    rw [← ih] at h
    rw [← ih]
    exact wloop_up (n + k) ρ h
theorem sWhile_of {c : DM Bool} {b : DM Fl} {n : Nat} {ρ : SE} (h : isBad (wloop c b n ρ) = false) : sWhile c b ρ = wloop c b n ρ := by
  unfold sWhile
  have hx : ∃ n, isBad (wloop c b n ρ) = false := ⟨n, h⟩
  rw [dif_pos hx]
  have h2 := Classical.choose_spec hx
  generalize Classical.choose hx = k at h2 ⊢
  rw [← wloop_le h k, ← wloop_le h2 n, Nat.add_comm]
theorem sWhile_ex {c : DM Bool} {b : DM Fl} {ρ : SE} (h : isBad (sWhile c b ρ) = false) : ∃ n, sWhile c b ρ = wloop c b n ρ ∧ isBad (wloop c b n ρ) = false := by
  unfold sWhile at h ⊢
  split at h
  · rename_i hx
    rw [dif_pos hx]
    exact ⟨_, rfl, h⟩
  · cases h
theorem sWhile_eq (c : DM Bool) (b : DM Fl) (ρ : SE) : sWhile c b ρ = (c ρ).bind fun k ρ1 => if k = true then (b ρ1).bind fun f ρ2 => match f with
      | .nx => sWhile c b ρ2
      | .ct => sWhile c b ρ2
      | .bk => .ok .nx ρ2
      | .rt r => .ok (.rt r) ρ2
    else .ok .nx ρ1 := by
  cases e : c ρ with
  | bad =>
    unfold sWhile
    rw [dif_neg]
    · rfl
    · rintro ⟨n, h⟩
      cases n with
      | zero => cases h
      | succ n =>
        unfold wloop at h
        rw [e] at h
        cases h
  | ex x ρ1 =>
    have e1 : wloop c b 1 ρ = .ex x ρ1 := by
      unfold wloop
      rw [e]
      rfl
    rw [sWhile_of (n := 1) (by rw [e1]; rfl), e1]
    rfl
  | ok k ρ1 =>
    have un : ∀ n, wloop c b (n + 1) ρ = if k = true then (b ρ1).bind fun f ρ2 => match f with
          | .nx => wloop c b n ρ2
          | .ct => wloop c b n ρ2
          | .bk => .ok .nx ρ2
          | .rt r => .ok (.rt r) ρ2
        else .ok .nx ρ1 := fun n => by
      rw [wloop, e]
      rfl
    show _ = if k = true then _ else _
    cases k with
    | false =>
      rw [sWhile_of (n := 1) (by rw [un]; rfl), un, if_neg Bool.false_ne_true, if_neg Bool.false_ne_true]
    | true =>
      rw [if_pos rfl]
      simp only [if_true] at un
      cases e2 : b ρ1 with
      | bad =>
        unfold sWhile
        rw [dif_neg]
        · rfl
        · rintro ⟨n, h⟩
          cases n with
          | zero => cases h
          | succ n =>
            rw [un, e2] at h
            cases h
      | ex x ρ2 =>
        rw [sWhile_of (n := 1) (by rw [un, e2]; rfl), un, e2]
        rfl
      | ok f ρ2 =>
        rw [e2] at un
        have go : (∀ n, wloop c b (n + 1) ρ = wloop c b n ρ2) → sWhile c b ρ = sWhile c b ρ2 := fun h => by
          by_cases hx : ∃ n, isBad (wloop c b n ρ2) = false
          · obtain ⟨n, hn⟩ := hx
            rw [sWhile_of hn, sWhile_of (n := n + 1) (by rw [h]; exact hn), h]
          · unfold sWhile
            rw [dif_neg hx, dif_neg]
            rintro ⟨n, h2⟩
            cases n with
            | zero => cases h2
            | succ n =>
              rw [h] at h2
              exact hx ⟨n, h2⟩
        cases f with
        | nx => exact go un
        | ct => exact go un
        | bk =>
          rw [sWhile_of (n := 1) (by rw [un]; rfl), un]
          rfl
        | rt r =>
          rw [sWhile_of (n := 1) (by rw [un]; rfl), un]
          rfl
theorem ds_while {body : List Stmt} (hp : PassesOwn (model X.prog X.w) X.A X.env X.xe) (hc : DT X M W c mt) (hb : DSs X M W body s) : DS X M W (.While c body [] pos) (sWhile mt s) := by
  obtain ⟨tc, pc, qc⟩ := hc
  obtain ⟨tb, pb, qb⟩ := hb
  refine ⟨_, ps_while hp pc pb, fun σ H F ρ E sm h => ?_⟩
  have nb : isBad (sWhile mt s ρ) = false := by
    cases e : sWhile mt s ρ with
    | bad =>
      rw [e] at h
      exact h.elim
    | _ => rfl
  obtain ⟨n, en, hn⟩ := sWhile_ex nb
  rw [en] at h
  refine ⟨fun k σ' H' => ∃ F' ρ', Sim M F' H' σ' ρ' ∧ PostS M W σ' ρ' F' H' (wloop mt s k ρ') E, ⟨n, F, ρ, sm, h⟩, ?_⟩
  rintro k σ1 H1 ⟨F1, ρ1, sm1, h1⟩
  cases k with
  | zero => exact h1.elim
  | succ k =>
    unfold wloop at h1
    refine qc σ1 H1 F1 ρ1 _ sm1 (PostT.goS h1 fun c ρ2 F2 H2 _ st2 sm2 h2 => ?_)
    cases c with
    | false =>
      rw [if_neg Bool.false_ne_true]
      exact h2 F2 H2 σ1 st2 sm2
    | true =>
      rw [if_pos rfl]
      refine ⟨fun σ' H' => ∃ F' ρ', Sim M F' H' σ' ρ' ∧ PostS M W σ' ρ' F' H' (wloop mt s k ρ') E, fun σ' H' q => ⟨k, Nat.lt_succ_self k, q⟩, ?_⟩
      refine qb σ1 H2 F2 ρ2 _ sm2 ?_
      rw [if_pos rfl] at h2
      have h3 := PostS.from st2 h2
      cases e : s ρ2 with
      | bad =>
        rw [e] at h3
        exact h3
      | ex x ρ3 =>
        rw [e] at h3
        exact h3
      | ok f ρ3 =>
        rw [e] at h3
        cases f with
        | nx => exact fun F3 H3 σ3 st3 sm3 => ⟨F3, ρ3, sm3, PostS.from st3 h3⟩
        | ct => exact fun F3 H3 σ3 st3 sm3 => ⟨F3, ρ3, sm3, PostS.from st3 h3⟩
        | bk => exact h3
        | rt r => exact h3
def ItOk (M : Mx) (J : It) (F1 : Hp) (ds : List D) : Prop := ∀ (i : Nat) F H, Same F1 F → SubF F H → (∀ d, ds[i]? = some d → J.go i H ∧ ∀ x H', J.yld i H x H' → ∃ F', Alc F H F' H' ∧ Rep M F' x d) ∧ (ds.length ≤ i → J.stop i H)
def PostI (M : Mx) (W : WX) (σ : L2.St) (ρ : SE) (F H : Hp) (r : R (List D)) (Q : It → Hp → Prop) : Prop := match r with
  | .bad => False
  | .ok ds ρ' => ∀ F' H' J, Stp F H σ ρ F' H' σ ρ' → Sim M F' H' σ ρ' → ItOk M J F' ds → Q J H'
  | .ex e ρ' => ∀ F' H' cls d, Stp F H σ ρ F' H' σ ρ' → Sim M F' H' σ ρ' → ExcOk M F' H' cls d e → W cls d σ H'
def DI (X : Cx) (M : Mx) (W : WX) (tg iter : Expr) (m : DM (List D)) : Prop := ∃ t, PI X tg iter t ∧ ∀ σ H F ρ Q, Sim M F H σ ρ → PostI M W σ ρ F H (m ρ) Q → t σ H Q
def floop (gm : D → SE → R Unit) (b : DM Fl) : List D → SE → R Fl
  | [], ρ => .ok .nx ρ
  | d :: ds, ρ => (gm d ρ).bind fun _ ρ1 => (b ρ1).bind fun f ρ2 => match f with
      | .nx => floop gm b ds ρ2
      | .ct => floop gm b ds ρ2
      | .bk => .ok .nx ρ2
      | .rt r => .ok (.rt r) ρ2
def sFor (mi : DM (List D)) (gm : D → SE → R Unit) (b : DM Fl) : DM Fl := fun ρ => (mi ρ).bind fun ds ρ1 => floop gm b ds ρ1
theorem ds_for {tg iter : Expr} {body : List Stmt} {mi : DM (List D)} {sl : List Nat} {gm : D → SE → R Unit} (hp : PassesOwn (model X.prog X.w) X.A X.env X.xe) (hc : X.calm = true) (hi : DI X M W tg iter mi) (hg : DG X M tg sl gm) (hb : DSs X M W body s)
    (hs : ∀ x, foldedSetIterable iter X.env x = pure x := by intro _; rfl) : DS X M W (.For tg iter body [] pos) (sFor mi gm s) := by
  obtain ⟨ti, pi, qi⟩ := hi
  obtain ⟨xg, tg', pg, qg⟩ := hg
  obtain ⟨tb, pb, qb⟩ := hb
  refine ⟨_, ps_for hp hc pi pg pb hs, fun σ H F ρ E sm h => ?_⟩
  refine qi σ H F ρ _ sm ?_
  unfold sFor at h
  cases e : mi ρ with
  | bad =>
    rw [e] at h
    exact h
  | ex x ρ1 =>
    rw [e] at h
    exact fun F' H' cls d st sm ok => h F' H' σ cls d st sm ok
  | ok ds ρ1 =>
    rw [e] at h
    intro F1 H1 J st1 sm1 it
    have h : PostS M W σ ρ F H (floop gm s ds ρ1) E := h
    refine ⟨fun i k σ' H' => k = ds.length - i ∧ i ≤ ds.length ∧ ∃ F' ρ', Same F1 F' ∧ Sim M F' H' σ' ρ' ∧ PostS M W σ' ρ' F' H' (floop gm s (ds.drop i) ρ') E, ⟨ds.length, by simp, Nat.zero_le _, F1, ρ1, Same.refl _, sm1, PostS.from st1 h⟩, ?_⟩
    rintro i k σ2 H2 ⟨rfl, hi, F2, ρ2, sa, sm2, h2⟩
    by_cases lt : i < ds.length
    · have ed : ds.drop i = ds[i] :: ds.drop (i + 1) := List.drop_eq_getElem_cons lt
      rw [ed] at h2
      obtain ⟨g1, g2⟩ := (it i F2 H2 sa sm2.sub).1 ds[i] (List.getElem?_eq_getElem lt)
      refine .inr ⟨g1, fun σ' H' => ∃ F' ρ', Same F1 F' ∧ Sim M F' H' σ' ρ' ∧ PostS M W σ' ρ' F' H' (floop gm s (ds.drop (i + 1)) ρ') E, fun σ' H' q => ⟨ds.length - (i + 1), by omega, rfl, lt, q⟩, fun x H' y => ?_⟩
      obtain ⟨F3, al, r⟩ := g2 x H' y
      have sm3 := sm2.alc al
      obtain ⟨ρ4, e4, h4⟩ := gm_ok (P := fun r => PostS M W σ2 ρ2 F2 H2 r E) xg (fun z => z) h2
      refine qg x ds[i] σ2 H' F3 ρ2 _ sm3 r ⟨ρ4, e4, fun σ4 _ st4 sm4 => ?_⟩
      have st5 := st4 _ _ _ _ (al.stp σ2 ρ2)
      refine qb σ4 H' F3 ρ4 _ sm4 ?_
      have h5 := PostS.from st5 h4
      have sa5 := sa.trans al.same
      cases e5 : s ρ4 with
      | bad =>
        rw [e5] at h5
        exact h5
      | ex x ρ6 =>
        rw [e5] at h5
        exact h5
      | ok f ρ6 =>
        rw [e5] at h5
        cases f with
        | nx => exact fun F6 H6 σ6 st6 sm6 => ⟨F6, ρ6, sa5.trans st6.same, sm6, PostS.from st6 h5⟩
        | ct => exact fun F6 H6 σ6 st6 sm6 => ⟨F6, ρ6, sa5.trans st6.same, sm6, PostS.from st6 h5⟩
        | bk => exact h5
        | rt r => exact h5
    · have e1 : i = ds.length := by omega
      subst e1
      refine .inl ⟨(it _ F2 H2 sa sm2.sub).2 (Nat.le_refl _), ?_⟩
      rw [List.drop_length] at h2
      exact h2 F2 H2 σ2 (Stp.refl _ _ _ _) sm2
def iSeqs (r : D) (ρ : SE) : R (List D) := match r with
  | .lst ds => .ok ds ρ
  | .tl _ ds => .ok ds ρ
  | .tup ds => .ok ds ρ
  | .scr ns => .ok (ns.map D.int) ρ
  | .str x => .ok (x.cps.toList.map fun c => D.str ⟨#[c]⟩) ρ
  | _ => .bad
def iSeq (m : DM RV) : DM (List D) := fun ρ => (dFz m ρ).bind iSeqs
theorem it_listG {a : Addr} {vs : List V} {ds : List D} (h : ∀ F2 H2, Same F F2 → SubF F2 H2 → H2 a = some (.lst vs)) (r : Reps M F vs ds) : ItOk M (Itl M.K a) F ds := fun i F2 H2 sa sub => by
  refine ⟨fun d hd => ?_, fun hl => ⟨vs, .inl (.inl (h F2 H2 sa sub)), by rw [r.length]; exact hl⟩⟩
  obtain ⟨v, h1, h2⟩ := r.get hd
  have hs : SqL M.K H2 a vs := .inl (.inl (h F2 H2 sa sub))
  refine ⟨⟨vs, v, hs, h1⟩, fun x H' y => ?_⟩
  obtain ⟨e, y⟩ := y
  subst e
  have e2 := y vs hs
  rw [h1] at e2
  cases e2
  exact ⟨F2, Alc.refl sub, h2.up sa⟩
theorem it_list {a : Addr} {vs : List V} {ds : List D} (h : F a = some (.lst vs)) (r : Reps M F vs ds) : ItOk M (Itl M.K a) F ds := it_listG (fun F2 H2 sa sub => sub.go _ _ (sa _ _ h)) r
theorem it_tl {a : Addr} {n : Nat} {vs : List V} {ds : List D} (h : F a = some (bw n vs)) (r : Reps M F vs ds) : ItOk M (Itl M.K a) F ds := it_listG (fun F2 H2 sa sub => sub.bk _ _ _ (sa _ _ h)) r
theorem it_tup {a : Addr} {vs : List V} {ds : List D} (h : SqT M.K F a vs) (r : Reps M F vs ds) : ItOk M (Itt M.K a) F ds := fun i F2 H2 sa sub => by
  have hs : SqT M.K H2 a vs := sub.sqT (same_sqT sa h)
  refine ⟨fun d hd => ?_, fun hl => ⟨vs, hs, by rw [r.length]; exact hl⟩⟩
  obtain ⟨v, h1, h2⟩ := r.get hd
  refine ⟨⟨vs, v, hs, h1⟩, fun x H' y => ?_⟩
  obtain ⟨e, y⟩ := y
  subst e
  have e2 := y vs hs
  rw [h1] at e2
  cases e2
  exact ⟨F2, Alc.refl sub, h2.up sa⟩
theorem it_scr {a : Addr} {ns : List Int} (h : SqL M.K F a (ns.map V.int)) : ItOk M (Itl M.K a) F (ns.map D.int) := fun i F2 H2 sa sub => by
  have hs : SqL M.K H2 a (ns.map V.int) := sub.sqL (same_sqL sa h)
  refine ⟨fun d hd => ?_, fun hl => ⟨_, hs, by rw [List.length_map] at hl ⊢; exact hl⟩⟩
  obtain ⟨v, h1, h2⟩ := (Reps.ofInts (M := M) (F := F2) ns).get hd
  refine ⟨⟨_, v, hs, h1⟩, fun x H' y => ?_⟩
  obtain ⟨e, y⟩ := y
  subst e
  have e2 := y _ hs
  rw [h1] at e2
  cases e2
  exact ⟨F2, Alc.refl sub, h2⟩
theorem it_str (x : Str) : ItOk M (Its x) F (x.cps.toList.map fun c => D.str ⟨#[c]⟩) := fun i F2 H2 sa sub => by
  refine ⟨fun d hd => ?_, fun hl => by
    rw [List.length_map, Array.length_toList] at hl
    exact hl⟩
  rw [List.getElem?_map] at hd
  obtain ⟨c, h1, h2⟩ := map_some hd
  subst h2
  have h3 : x.cps[i]? = some c := by
    rw [← h1]
    simp
  refine ⟨(Array.getElem?_eq_some_iff.mp h3).1, fun y H' z => ?_⟩
  obtain ⟨e, c', e2, e3⟩ := z
  subst e e3
  rw [h3] at e2
  cases e2
  exact ⟨F2, Alc.refl sub, .str _⟩
theorem PI.or {tg iter : Expr} {w1 w2 : TI} (h1 : PI X tg iter w1) (h2 : PI X tg iter w2) : PI X tg iter (fun σ H R => w1 σ H R ∨ w2 σ H R) := ⟨fun pins s σ H R I h => h.elim (h1.run pins s σ H R I) (h2.run pins s σ H R I)⟩
theorem PostD.goI {r : R RV} {Q : It → Hp → Prop} {g : D → SE → R (List D)} (h : PostI M W σ ρ F H ((r.bind fz).bind g) Q) {Q' : VK}
    (k : ∀ d ρ1 F1 H1 v, (∃ ρ', r.bind fz = .ok d ρ') → Stp F H σ ρ F1 H1 σ ρ1 → Sim M F1 H1 σ ρ1 → Rep M F1 v d → PostI M W σ ρ F H (g d ρ1) Q → Q' v H1) : Post M W σ ρ F H r Q' := by
  refine PostD.go ?_
  cases e : r.bind fz with
  | bad =>
    rw [e] at h
    exact h
  | ok d ρ1 =>
    rw [e] at h
    exact fun F1 H1 v st sm r => k d ρ1 F1 H1 v ⟨_, e⟩ st sm r h
  | ex x ρ1 =>
    rw [e] at h
    exact h
theorem di_seq {tg : Expr} (he : DE X M W e m) (hK : M.K = X.K := by rfl) : DI X M W tg e (iSeq m) := by
  obtain ⟨t, p, q⟩ := he
  refine ⟨_, PI.or (pi_list p) (PI.or (pi_tup p) (pi_str p)), fun σ H F ρ Q sm h => ?_⟩
  have kind : ∀ d ρ', dFz m ρ = .ok d ρ' → (∃ ds, d = .lst ds) ∨ (∃ n ds, d = .tl n ds) ∨ (∃ ns, d = .scr ns) ∨ (∃ ds, d = .tup ds) ∨ (∃ x, d = .str x) ∨ ∀ ρ2, iSeqs d ρ2 = .bad := fun d ρ' _ => by
    cases d with
    | lst ds => exact .inl ⟨ds, rfl⟩
    | tl n ds => exact .inr (.inl ⟨n, ds, rfl⟩)
    | scr ds => exact .inr (.inr (.inl ⟨ds, rfl⟩))
    | tup ds => exact .inr (.inr (.inr (.inl ⟨ds, rfl⟩)))
    | str ds => exact .inr (.inr (.inr (.inr (.inl ⟨ds, rfl⟩))))
    | _ => exact .inr (.inr (.inr (.inr (.inr fun _ => rfl))))
  have h : PostI M W σ ρ F H (((m ρ).bind fz).bind iSeqs) Q := h
  cases e0 : (m ρ).bind fz with
  | bad =>
    rw [e0] at h
    exact h.elim
  | ex x ρ1 =>
    refine .inl (q σ H F ρ _ sm (PostD.goI h fun d ρ1 F1 H1 v ⟨ρ2, e1⟩ st1 sm1 r1 h1 => ?_))
    rw [e0] at e1
    cases e1
  | ok d ρ0 =>
    rcases kind d ρ0 e0 with ⟨ds, rfl⟩ | ⟨n, ds, rfl⟩ | ⟨ns, rfl⟩ | ⟨ds, rfl⟩ | ⟨x, rfl⟩ | hb
    · refine .inl (q σ H F ρ _ sm (PostD.goI h fun d ρ1 F1 H1 v ⟨ρ2, e1⟩ st1 sm1 r1 h1 => ?_))
      rw [e0] at e1
      cases e1
      cases r1 with
      | lst h2 h3 => exact ⟨_, rfl, ⟨_, .inl (.inl (sm1.sub.go _ _ h2))⟩, hK ▸ h1 F1 H1 _ st1 sm1 (it_list h2 h3)⟩
    · refine .inl (q σ H F ρ _ sm (PostD.goI h fun d ρ1 F1 H1 v ⟨ρ2, e1⟩ st1 sm1 r1 h1 => ?_))
      rw [e0] at e1
      cases e1
      cases r1 with
      | tl h2 h3 => exact ⟨_, rfl, ⟨_, .inl (.inl (sm1.sub.bk _ _ _ h2))⟩, hK ▸ h1 F1 H1 _ st1 sm1 (it_tl h2 h3)⟩
    · refine .inl (q σ H F ρ _ sm (PostD.goI h fun d ρ1 F1 H1 v ⟨ρ2, e1⟩ st1 sm1 r1 h1 => ?_))
      rw [e0] at e1
      cases e1
      cases r1 with
      | scr h2 => exact ⟨_, rfl, ⟨_, hK ▸ sm1.sub.sqL h2⟩, hK ▸ h1 F1 H1 _ st1 sm1 (it_scr h2)⟩
    · refine .inr (.inl (q σ H F ρ _ sm (PostD.goI h fun d ρ1 F1 H1 v ⟨ρ2, e1⟩ st1 sm1 r1 h1 => ?_)))
      rw [e0] at e1
      cases e1
      cases r1 with
      | tup h2 h3 => exact ⟨_, rfl, ⟨_, hK ▸ sm1.sub.sqT h2⟩, hK ▸ h1 F1 H1 _ st1 sm1 (it_tup h2 h3)⟩
    · refine .inr (.inr (q σ H F ρ _ sm (PostD.goI h fun d ρ1 F1 H1 v ⟨ρ2, e1⟩ st1 sm1 r1 h1 => ?_)))
      rw [e0] at e1
      cases e1
      cases r1
      exact ⟨_, rfl, h1 F1 H1 _ st1 sm1 (it_str x)⟩
    · rw [e0] at h
      have h : PostI M W σ ρ F H (iSeqs d ρ0) Q := h
      rw [hb] at h
      exact h.elim
end
end DL

/- part -/
set_option Elab.async false
set_option linter.all false
set_option maxRecDepth 100000
set_option maxHeartbeats 4000000
namespace DL
open PySem PySem.Spec PyProof.Rows L2
def argsIn (svs : SE) : Prop := ∀ (i : Nat) sv, svs[i]? = some sv → (∃ d, sv = .im d) ∨ ∃ ds, sv = .ow true ds
def spD (M : Mx) (n : Nat) (m : SE → R RV) : Sp := fun vs H Q E => ∃ F svs, vs.length = n ∧ argsIn svs ∧ Sim M F H (vs.map some) svs ∧ Post M (fun cls d _ H' => E cls d H') (vs.map some) svs F H (m svs) Q
def argSV (ρ : SE) : AV → SV
  | .d d => .im d
  | .io i => match ρ[i]? with
    | some (.ow _ ds) => .ow true ds
    | _ => .no
def iosOf : Nat → List AV → List (Nat × Nat)
  | _, [] => []
  | j, .d _ :: r => iosOf (j + 1) r
  | j, .io i :: r => (j, i) :: iosOf (j + 1) r
def notBo : RV → Bool
  | .bo _ => false
  | .bt _ _ => false
  | _ => true
def backIo (ρ : SE) (j i : Nat) (svs : SE) : Option SE := match svs[j]?, ρ[i]? with
  | some (.ow true ds), some (.ow io _) => some (ρ.set i (.ow io ds))
  | _, _ => none
def callR (m : SE → R RV) (as : List AV) (ρ : SE) : R RV := match iosOf 0 as with
  | [] => match m (as.map (argSV ρ)) with
    | .bad => .bad
    | .ok r _ => if notBo r = true then .ok r ρ else .bad
    | .ex e _ => .ex e ρ
  | [(j, i)] => match m (as.map (argSV ρ)) with
    | .bad => .bad
    | .ok r svs => if notBo r = true then (match backIo ρ j i svs with
      | some ρ2 => .ok r ρ2
      | none => .bad) else .bad
    | .ex e svs => (match backIo ρ j i svs with
      | some ρ2 => .ex e ρ2
      | none => .bad)
  | _ => .bad
def dCall (n : Nat) (ds : List D) (m : SE → R RV) (ms : DM (List AV)) : DM RV := fun ρ => (ms ρ).bind fun as ρ1 => if (as ++ ds.map AV.d).length = n then callR m (as ++ ds.map AV.d) ρ1 else .bad
section
variable {M : Mx} {W : WX} {X : Cx} {F H F' H' F1 H1 F2 H2 H0 : Hp} {σ : L2.St} {ρ ρ1 : SE} {vs : List V} {as : List AV}
theorem iosOf_mem : ∀ {as : List AV} {n i k : Nat}, as[i]? = some (.io k) → (n + i, k) ∈ iosOf n as
  | [], _, _, _, h => by simp at h
  | .d d :: r, n, 0, k, h => by simp at h
  | .io q :: r, n, 0, k, h => by
    simp at h
    subst h
    exact List.mem_cons_self
  | .d d :: r, n, i + 1, k, h => by
    have h2 := iosOf_mem (n := n + 1) (show r[i]? = some (.io k) by simpa using h)
    rw [show n + 1 + i = n + (i + 1) by omega] at h2
    exact h2
  | .io q :: r, n, i + 1, k, h => by
    have h2 := iosOf_mem (n := n + 1) (show r[i]? = some (.io k) by simpa using h)
    rw [show n + 1 + i = n + (i + 1) by omega] at h2
    exact List.mem_cons_of_mem _ h2
theorem iosOf_at : ∀ {as : List AV} {n j k : Nat}, (j, k) ∈ iosOf n as → ∃ i, j = n + i ∧ as[i]? = some (.io k)
  | [], _, _, _, h => by cases h
  | .d d :: r, n, j, k, h => by
    obtain ⟨i, e, h2⟩ := iosOf_at (as := r) (n := n + 1) h
    exact ⟨i + 1, by omega, by simpa using h2⟩
  | .io q :: r, n, j, k, h => by
    rcases List.mem_cons.mp h with h | h
    · cases h
      exact ⟨0, by omega, rfl⟩
    · obtain ⟨i, e, h2⟩ := iosOf_at (as := r) (n := n + 1) h
      exact ⟨i + 1, by omega, by simpa using h2⟩
theorem AvsOk.len : ∀ {vs : List V} {as : List AV}, AvsOk M F σ ρ vs as → vs.length = as.length
  | _, _, .nil => rfl
  | _, _, .cons _ h => congrArg (· + 1) (AvsOk.len h)
theorem AvsOk.at : ∀ {vs : List V} {as : List AV} {i : Nat} {a : AV}, AvsOk M F σ ρ vs as → as[i]? = some a → ∃ v, vs[i]? = some v ∧ AvOk M F σ ρ v a
  | _, _, _, _, .nil, h => by simp at h
  | _, _, 0, _, .cons h _, e => ⟨_, rfl, by
    simp at e
    subst e
    exact h⟩
  | _, _, i + 1, a, .cons _ t, e => by
    obtain ⟨v, h1, h2⟩ := AvsOk.at (i := i) t (by simpa using e)
    exact ⟨v, by simpa using h1, h2⟩
theorem arg_at {i : Nat} {sv : SV} (e : (as.map (argSV ρ))[i]? = some sv) : ∃ a, as[i]? = some a ∧ argSV ρ a = sv := by
  rw [List.getElem?_map] at e
  exact map_some e
theorem arg_ow {a : AV} {io : Bool} {ds : OC} (h : argSV ρ a = .ow io ds) : io = true ∧ ∃ k q, a = .io k ∧ ρ[k]? = some (.ow q ds) := by
  cases a with
  | d d => cases h
  | io k =>
    have h : (match ρ[k]? with
      | some (.ow _ ds) => SV.ow true ds
      | _ => .no) = .ow io ds := h
    split at h
    · rename_i q es e
      cases h
      exact ⟨rfl, k, q, rfl, e⟩
    · cases h
theorem arg_im {a : AV} {d : D} (h : argSV ρ a = .im d) : a = .d d := by
  cases a with
  | d d =>
    cases h
    rfl
  | io k =>
    have h : (match ρ[k]? with
      | some (.ow _ ds) => SV.ow true ds
      | _ => .no) = .im d := h
    split at h <;> cases h
theorem arg_some {i : Nat} {v : V} (h : (vs.map some)[i]? = some (some v)) : vs[i]? = some v := by
  rw [List.getElem?_map] at h
  obtain ⟨x, e, e2⟩ := map_some h
  cases e2
  exact e
theorem some_arg {i : Nat} {v : V} (h : vs[i]? = some v) : (vs.map some)[i]? = some (some v) := by
  rw [List.getElem?_map, h]
  rfl
theorem own_arg (ok : AvsOk M F σ ρ vs as) {b : Addr} (h : Own (vs.map some) (as.map (argSV ρ)) b) : ∃ (j k : Nat), as[j]? = some (.io k) ∧ isOw ρ k ∧ σ[k]? = some (some (V.ref b)) ∧ vs[j]? = some (V.ref b) := by
  obtain ⟨j, ⟨io, ds, e⟩, e2⟩ := h
  obtain ⟨a, h1, h2⟩ := arg_at e
  obtain ⟨_, k, q, rfl, h3⟩ := arg_ow h2
  have e3 := arg_some e2
  obtain ⟨v, h4, h5⟩ := ok.at h1
  rw [e3] at h4
  cases h4
  exact ⟨j, k, h1, h5.1, h5.2, e3⟩
theorem args_in (ok : AvsOk M F σ ρ vs as) : argsIn (as.map (argSV ρ)) := fun i sv e => by
  obtain ⟨a, h1, h2⟩ := arg_at e
  subst h2
  cases a with
  | d d => exact .inl ⟨d, rfl⟩
  | io k =>
    obtain ⟨v, h4, h5⟩ := ok.at h1
    obtain ⟨⟨io, ds, e3⟩, _⟩ := h5
    refine .inr ⟨ds, ?_⟩
    show (match ρ[k]? with
      | some (.ow _ ds) => SV.ow true ds
      | _ => .no) = _
    rw [e3]
theorem args_sim (sm : Sim M F H σ ρ) (ok : AvsOk M F σ ρ vs as) (one : (iosOf 0 as).length ≤ 1) : Sim M F H (vs.map some) (as.map (argSV ρ)) := by
  refine ⟨sm.sub0, sm.tabs, by rw [List.length_map, List.length_map, ok.len], fun i d e => ?_, fun i io ds e => ?_, fun i j b o1 o2 e1 e2 => ?_⟩
  · obtain ⟨a, h1, h2⟩ := arg_at e
    have h2 := arg_im h2
    subst h2
    obtain ⟨v, h3, h4⟩ := ok.at h1
    exact ⟨v, some_arg h3, h4⟩
  · obtain ⟨a, h1, h2⟩ := arg_at e
    obtain ⟨e3, k, q, rfl, h3⟩ := arg_ow h2
    obtain ⟨v, h4, h5⟩ := ok.at h1
    obtain ⟨b, ws, g1, g2, g3, g4⟩ := sm.ow k q ds h3
    have h6 := h5.2
    rw [g1] at h6
    cases h6
    exact ⟨b, ws, some_arg h4, g2, g3, g4⟩
  · obtain ⟨io1, ds1, q1⟩ := o1
    obtain ⟨io2, ds2, q2⟩ := o2
    obtain ⟨a1, h1, h2⟩ := arg_at q1
    obtain ⟨a2, h3, h4⟩ := arg_at q2
    obtain ⟨_, k1, _, rfl, _⟩ := arg_ow h2
    obtain ⟨_, k2, _, rfl, _⟩ := arg_ow h4
    have m1 := iosOf_mem (n := 0) h1
    have m2 := iosOf_mem (n := 0) h3
    match el : iosOf 0 as, one with
    | [], _ =>
      rw [el] at m1
      cases m1
    | [p], _ =>
      rw [el] at m1 m2
      have e3 := List.mem_singleton.mp m1
      have e4 := List.mem_singleton.mp m2
      rw [← e4] at e3
      have := congrArg Prod.fst e3
      simpa using this
    | _ :: _ :: _, z => simp at z
theorem nb_ok {r : RV} {v : V} {svs : SE} (nb : notBo r = true) (ok : RvOk M H1 F2 H2 (vs.map some) svs v r) (fr : ∀ a, Own σ ρ1 a → ∃ o, H1 a = some o ∧ ∀ ps, o ≠ .tbl ps) : RvOk M H1 F2 H2 σ ρ1 v r := by
  cases r with
  | im d => exact ok
  | ow ds =>
    obtain ⟨a, ws, e, h1, h2, h3, h4, h5⟩ := ok
    refine ⟨a, ws, e, h1, h2, h3, fun z => ?_, h5⟩
    obtain ⟨o, ho, hn⟩ := fr a z
    exact h5.no ho hn
  | bo i => cases nb
  | bt i d => cases nb
  | ot ds d =>
    obtain ⟨T, a, ws, x, e, h1, h2, h3, h4, h5, h6, h7⟩ := ok
    refine ⟨T, a, ws, x, e, h1, h2, h3, h4, h5, fun z => ?_, h7⟩
    obtain ⟨o, ho, hn⟩ := fr a z
    exact h7.no ho hn
theorem call_none {svs : SE} (ok : AvsOk M F1 σ ρ vs as) (sm : Sim M F1 H1 σ ρ) (e : iosOf 0 as = []) (st : Stp F1 H1 (vs.map some) (as.map (argSV ρ)) F2 H2 (vs.map some) svs) (sm2 : Sim M F2 H2 (vs.map some) svs) : Stp F1 H1 σ ρ F2 H2 σ ρ ∧ Sim M F2 H2 σ ρ := by
  have no : ∀ b, ¬ Own (vs.map some) (as.map (argSV ρ)) b := fun b z => by
    obtain ⟨j, k, h1, _⟩ := own_arg ok z
    have h2 := iosOf_mem (n := 0) h1
    rw [e] at h2
    cases h2
  refine ⟨⟨st.same, fun b o h _ nt => st.keep b o h (no b) nt, fun b z => .inl z, fun b o z => (st.newF b o z).elim .inl fun z => z.elim (fun z => (no b z).elim) fun z => .inr (.inr z), st.dom, fun _ ds z => ⟨rfl, ds, z⟩, fun _ ds z => ⟨ds, z⟩⟩,
    ⟨sm2.sub0, sm2.tabs, sm.len, fun i d z => ?_, fun i io ds z => ?_, sm.inj⟩⟩
  · obtain ⟨v, e1, r⟩ := sm.im i d z
    exact ⟨v, e1, r.up st.same⟩
  · obtain ⟨a, ws, e1, h1, h2, r⟩ := sm.ow i io ds z
    refine ⟨a, ws, e1, st.keep _ _ h1 (no a) r.nt, ?_, r.up st.same⟩
    cases e2 : F2 a with
    | none => rfl
    | some o =>
      rcases st.newF a o e2 with z | z | z
      · rw [h2] at z
        cases z
      · exact (no a z).elim
      · exact (z.no h1 r.nt).elim
theorem call_one {svs : SE} {j i : Nat} {ρ2 : SE} (ok : AvsOk M F1 σ ρ vs as) (sm : Sim M F1 H1 σ ρ) (e : iosOf 0 as = [(j, i)]) (hb : backIo ρ j i svs = some ρ2) (st : Stp F1 H1 (vs.map some) (as.map (argSV ρ)) F2 H2 (vs.map some) svs) (sm2 : Sim M F2 H2 (vs.map some) svs) :
    Stp F1 H1 σ ρ F2 H2 σ ρ2 ∧ Sim M F2 H2 σ ρ2 ∧ ∀ a, Own σ ρ2 a → Own σ ρ a := by
  have hj : as[j]? = some (.io i) := by
    obtain ⟨l, e1, h1⟩ := iosOf_at (as := as) (n := 0) (j := j) (k := i) (by rw [e]; exact List.mem_cons_self)
    rw [show j = l by omega]
    exact h1
  obtain ⟨v, h4, h5⟩ := ok.at hj
  unfold backIo at hb
  split at hb
  · rename_i es io ds0 hs hi
    cases hb
    obtain ⟨x, vs0, e1, g1, g2, g3⟩ := sm.ow i io ds0 hi
    obtain ⟨y, ws, e2, k1, k2, k3⟩ := sm2.ow j true es hs
    have h6 := h5.2
    rw [e1] at h6
    cases h6
    have h7 := arg_some e2
    rw [h4] at h7
    cases h7
    have only : ∀ b, Own (vs.map some) (as.map (argSV ρ)) b → b = x := fun b z => by
      obtain ⟨l, k, q1, q2, q3, q4⟩ := own_arg ok z
      have q5 := iosOf_mem (n := 0) q1
      rw [e] at q5
      have q6 := List.mem_singleton.mp q5
      cases q6
      rw [e1] at q3
      cases q3
      rfl
    have hown : Own σ ρ x := ⟨i, ⟨io, ds0, hi⟩, e1⟩
    have lt : i < ρ.length := (List.getElem?_eq_some_iff.mp hi).1
    have back : ∀ l, isOw (ρ.set i (.ow io es)) l → isOw ρ l := fun l ⟨q, d, z⟩ => by
      by_cases hl : l = i
      · subst hl
        exact ⟨io, ds0, hi⟩
      · rw [set_ne hl] at z
        exact ⟨q, d, z⟩
    have bown : ∀ a, Own σ (ρ.set i (.ow io es)) a → Own σ ρ a := fun a ⟨l, o, z⟩ => ⟨l, back l o, z⟩
    refine ⟨⟨st.same, fun b o h n nt => st.keep b o h (fun z => n ((only b z).symm ▸ hown)) nt, fun b z => .inl (bown b z), fun b o z => (st.newF b o z).elim .inl fun z => z.elim (fun z => .inr (.inl ((only b z).symm ▸ hown))) fun z => .inr (.inr z), st.dom, fun l ds z => ⟨rfl, ?_⟩, fun l ds z => ?_⟩,
      ⟨sm2.sub0, sm2.tabs, by rw [List.length_set]; exact sm.len, fun l d z => ?_, fun l q ds z => ?_, fun l k b o1 o2 => sm.inj l k b (back l o1) (back k o2)⟩, bown⟩
    · by_cases hl : l = i
      · subst hl
        rw [hi] at z
        cases z
        exact ⟨es, by rw [List.getElem?_set_self lt]⟩
      · exact ⟨ds, by rw [set_ne hl]; exact z⟩
    · by_cases hl : l = i
      · subst hl
        have z := (set_eq z).symm
        cases z
        exact ⟨ds0, hi⟩
      · rw [set_ne hl] at z
        exact ⟨ds, z⟩
    · by_cases hl : l = i
      · subst hl
        cases set_eq z
      · rw [set_ne hl] at z
        obtain ⟨v, e1, r⟩ := sm.im l d z
        exact ⟨v, e1, r.up st.same⟩
    · by_cases hl : l = i
      · subst hl
        have z := (set_eq z).symm
        cases z
        exact ⟨x, ws, e1, k1, k2, k3⟩
      · rw [set_ne hl] at z
        obtain ⟨a, us, q1, q2, q3, q4⟩ := sm.ow l q ds z
        have na : ¬ Own (vs.map some) (as.map (argSV ρ)) a := fun y => by
          have := only a y
          subst this
          exact hl (sm.inj l i a ⟨q, ds, z⟩ ⟨io, ds0, hi⟩ q1 e1)
        refine ⟨a, us, q1, st.keep _ _ q2 na q4.nt, ?_, q4.up st.same⟩
        cases e2 : F2 a with
        | none => rfl
        | some o =>
          rcases st.newF a o e2 with z | z | z
          · rw [q3] at z
            cases z
          · exact (na z).elim
          · exact (z.no q2 q4.nt).elim
  · cases hb
theorem own_has (sm : Sim M F1 H1 σ ρ) {a : Addr} (h : Own σ ρ a) : ∃ o, H1 a = some o ∧ ∀ ps, o ≠ .tbl ps := by
  exact (sm.ownF h).2
theorem call_sp {m : SE → R RV} {n : Nat} {Q : VK} (ok : AvsOk M F1 σ ρ vs as) (sm : Sim M F1 H1 σ ρ) (hn : vs.length = n) (h : Post M W σ ρ F1 H1 (callR m as ρ) Q) : spD M n m vs H1 Q (fun cls d H' => W cls d σ H') := by
  unfold callR at h
  split at h
  · rename_i e0
    refine ⟨F1, _, hn, args_in ok, args_sim sm ok (by rw [e0]; simp), ?_⟩
    cases e : m (as.map (argSV ρ)) with
    | bad =>
      rw [e] at h
      exact h.elim
    | ok r svs =>
      rw [e] at h
      intro F2 H2 v st2 sm2 ok2
      obtain ⟨st3, sm3⟩ := call_none ok sm e0 st2 sm2
      have h : Post M W σ ρ F1 H1 (if notBo r = true then .ok r ρ else .bad) Q := h
      by_cases nb : notBo r = true
      · rw [if_pos nb] at h
        exact h F2 H2 v st3 sm3 (nb_ok nb ok2 fun a z => own_has sm z)
      · rw [if_neg nb] at h
        exact h.elim
    | ex x svs =>
      rw [e] at h
      intro F2 H2 cls d st2 sm2 ok2
      obtain ⟨st3, sm3⟩ := call_none ok sm e0 st2 sm2
      exact h F2 H2 cls d st3 sm3 ok2
  · rename_i j i e0
    refine ⟨F1, _, hn, args_in ok, args_sim sm ok (by rw [e0]; simp), ?_⟩
    cases e : m (as.map (argSV ρ)) with
    | bad =>
      rw [e] at h
      exact h.elim
    | ok r svs =>
      rw [e] at h
      intro F2 H2 v st2 sm2 ok2
      have h : Post M W σ ρ F1 H1 (if notBo r = true then (match backIo ρ j i svs with
        | some ρ2 => .ok r ρ2
        | none => .bad) else .bad) Q := h
      by_cases nb : notBo r = true
      · rw [if_pos nb] at h
        cases eb : backIo ρ j i svs with
        | none =>
          rw [eb] at h
          exact h.elim
        | some ρ2 =>
          rw [eb] at h
          obtain ⟨st3, sm3, bo⟩ := call_one ok sm e0 eb st2 sm2
          exact h F2 H2 v st3 sm3 (nb_ok nb ok2 fun a z => own_has sm (bo a z))
      · rw [if_neg nb] at h
        exact h.elim
    | ex x svs =>
      rw [e] at h
      intro F2 H2 cls d st2 sm2 ok2
      have h : Post M W σ ρ F1 H1 (match backIo ρ j i svs with
        | some ρ2 => .ex x ρ2
        | none => .bad) Q := h
      cases eb : backIo ρ j i svs with
      | none =>
        rw [eb] at h
        exact h.elim
      | some ρ2 =>
        rw [eb] at h
        obtain ⟨st3, sm3, bo⟩ := call_one ok sm e0 eb st2 sm2
        exact h F2 H2 cls d st3 sm3 ok2
  · exact h.elim
theorem AvsOk.app : ∀ {vs ws : List V} {as : List AV} {ds : List D}, AvsOk M F σ ρ vs as → Reps M F ws ds → AvsOk M F σ ρ (vs ++ ws) (as ++ ds.map AV.d)
  | _, _, _, _, .nil, .nil => .nil
  | _, _, _, _, .nil, .cons r t => .cons r (AvsOk.app (vs := []) (as := []) .nil t)
  | _, _, _, _, .cons h t, r => .cons h (AvsOk.app t r)
variable {k n : Nat} {f : Addr} {fd : FuncData} {ps : List Str} {m : SE → R RV} {x : Str} {p pos : Pos} {a : Expr} {es : List Expr} {ms : DM (List AV)} {dvs : List V} {dus : List Value} {dds : List D}
theorem q_call {t : TA} (qa : ∀ σ H F ρ Q, Sim M F H σ ρ → PostA M W σ ρ F H (ms ρ) Q → t σ H Q) (hr : ∀ F, Reps M F dvs dds) : ∀ σ H F ρ Q, Sim M F H σ ρ → Post M W σ ρ F H (dCall n dds m ms ρ) Q → tCallSD (spD M n m) dvs (fun σ cls d H' => W cls d σ H') t σ H Q := fun σ H F ρ Q sm h => by
  refine qa σ H F ρ _ sm (PostA.goE h fun as ρ1 F1 H1 vs e st1 sm1 ok1 h1 => ?_)
  by_cases hn : (as ++ dds.map AV.d).length = n
  · rw [if_pos hn] at h1
    have ok2 := ok1.app (hr F1)
    exact call_sp ok2 sm1 (by rw [ok2.len]; exact hn) (Post.from st1 h1)
  · rw [if_neg hn] at h1
    exact h1.elim
theorem de_callD (G : FnOk X.prog X.w X.K X.mg X.base (L2.CX X.prog X.w) k f fd ps (spD M n m)) (hr : Room k X.A) (hm : X.mg x = some (.ref f)) (hk : PySem.W.keepIn X.K (.ref f) = true) (hb : Binds X.K fd ps dus) (hd : Vals dvs dus) (hds : ∀ F, Reps M F dvs dds) (tk : Takes X W) (ha : DA X M W (a :: es) ms) (hg : Gl X x := by rfl)
    (hdb : (x == ("__debug__" : Str)) = false := by decide) (he : starEach (a :: es) X.env = (false, eval a X.env) :: starEach es X.env := by rfl) (hpl : (backTo pos (starEach es X.env)).any (·.1) = false := by rfl) :
    DE X M W (.Call (.Name x p) (a :: es) [] pos) (dCall n dds m ms) := by
  obtain ⟨t, pa, qa⟩ := ha
  exact ⟨_, pe_callSD G hr hg hm hk hb hd (E := fun σ cls d H' => W cls d σ H') (fun σ => passAt tk σ) pa hdb he hpl, q_call qa hds⟩
theorem de_call (G : FnOk X.prog X.w X.K X.mg X.base (L2.CX X.prog X.w) k f fd ps (spD M n m)) (hr : Room k X.A) (hm : X.mg x = some (.ref f)) (hk : PySem.W.keepIn X.K (.ref f) = true) (hb : Binds X.K fd ps []) (tk : Takes X W) (ha : DA X M W (a :: es) ms) (hg : Gl X x := by rfl)
    (hdb : (x == ("__debug__" : Str)) = false := by decide) (he : starEach (a :: es) X.env = (false, eval a X.env) :: starEach es X.env := by rfl) (hpl : (backTo pos (starEach es X.env)).any (·.1) = false := by rfl) :
    DE X M W (.Call (.Name x p) (a :: es) [] pos) (dCall n [] m ms) := de_callD G hr hm hk hb .nil (fun _ => .nil) tk ha hg hdb he hpl
def out1 (sv sw : SV) : SV := match sv, sw with
  | .ow true _, .ow true es => .ow true es
  | sv, _ => sv
def outs : SE → SE → SE
  | [], _ => []
  | sv :: r, [] => sv :: r
  | sv :: r, sw :: r' => out1 sv sw :: outs r r'
def mRet (svs : SE) (f : Fl) (ρ : SE) : R RV := match f with
  | .nx => .ok (.im .non) (outs svs ρ)
  | .rt (.im d) => .ok (.im d) (outs svs ρ)
  | .rt (.ow ds) => .ok (.ow ds) (outs svs ρ)
  | .rt (.ot ds d) => .ok (.ot ds d) (outs svs ρ)
  | .rt (.bt i d) => match ρ[i]? with
    | some (.ow false (.ls ds)) => .ok (.ot ds d) (outs svs ρ)
    | _ => .bad
  | .rt (.bo i) => match ρ[i]? with
    | some (.ow false ds) => .ok (.ow ds) (outs svs ρ)
    | _ => .bad
  | _ => .bad
def mFn (nN : Nat) (mb : DM Fl) (svs : SE) : R RV := match mb (svs ++ List.replicate (nN - svs.length) .no) with
  | .bad => .bad
  | .ok f ρ => mRet svs f ρ
  | .ex e ρ => .ex e (outs svs ρ)
theorem outs_io : ∀ {svs ρ : SE} {i : Nat} {ds es : OC}, svs[i]? = some (.ow true ds) → ρ[i]? = some (.ow true es) → (outs svs ρ)[i]? = some (.ow true es)
  | [], _, _, _, _, h, _ => by simp at h
  | sv :: r, [], _, _, _, _, h => by simp at h
  | sv :: r, sw :: r', 0, ds, es, h1, h2 => by
    simp at h1 h2
    subst h1 h2
    rfl
  | sv :: r, sw :: r', i + 1, ds, es, h1, h2 => by
    have ih := outs_io (svs := r) (ρ := r') (i := i) (by simpa using h1) (by simpa using h2)
    show (out1 sv sw :: outs r r')[i + 1]? = _
    simpa using ih
theorem outs_im : ∀ {svs ρ : SE} {i : Nat} {d : D}, svs[i]? = some (.im d) → (outs svs ρ)[i]? = some (.im d)
  | [], _, _, _, h => by simp at h
  | sv :: r, [], i, d, h => h
  | sv :: r, sw :: r', 0, d, h1 => by
    simp at h1
    subst h1
    rfl
  | sv :: r, sw :: r', i + 1, d, h1 => by
    have ih := outs_im (svs := r) (ρ := r') (i := i) (by simpa using h1)
    show (out1 sv sw :: outs r r')[i + 1]? = _
    simpa using ih
theorem outs_len : ∀ svs ρ : SE, (outs svs ρ).length = svs.length
  | [], [] => rfl
  | [], _ :: _ => rfl
  | sv :: r, [] => rfl
  | sv :: r, sw :: r' => congrArg (· + 1) (outs_len r r')
theorem start_lo {N : List Str} {vs : List V} {i : Nat} (h : i < vs.length) : (L2.start N vs)[i]? = (vs.map some)[i]? := by
  unfold L2.start
  rw [List.getElem?_append_left (by simpa using h)]
theorem pad_lo {svs : SE} {n i : Nat} (h : i < svs.length) : (svs ++ List.replicate n SV.no)[i]? = svs[i]? := List.getElem?_append_left h
theorem pad_at {svs : SE} {n i : Nat} {sv : SV} (h : (svs ++ List.replicate n SV.no)[i]? = some sv) (hne : sv ≠ .no) : i < svs.length ∧ svs[i]? = some sv := by
  by_cases hi : i < svs.length
  · rw [pad_lo hi] at h
    exact ⟨hi, h⟩
  · rw [List.getElem?_append_right (by omega), List.getElem?_replicate] at h
    split at h
    · cases h
      exact (hne rfl).elim
    · cases h
section
variable {N : List Str} {svs : SE} {σ' : L2.St} {ρ' : SE}
theorem start_sim (sm : Sim M F H (vs.map some) svs) (hN : vs.length ≤ N.length) : Sim M F H (L2.start N vs) (svs ++ List.replicate (N.length - svs.length) .no) := by
  have hl : vs.length = svs.length := by simpa using sm.len
  have tr : ∀ {i : Nat} {sv : SV}, (svs ++ List.replicate (N.length - svs.length) SV.no)[i]? = some sv → sv ≠ .no → svs[i]? = some sv ∧ (L2.start N vs)[i]? = (vs.map some)[i]? := fun {i sv} h hne => by
    obtain ⟨h1, h2⟩ := pad_at h hne
    exact ⟨h2, start_lo (by omega)⟩
  refine ⟨sm.sub0, sm.tabs, ?_, fun i d e => ?_, fun i io ds e => ?_, fun i j a o1 o2 e1 e2 => ?_⟩
  · unfold L2.start
    simp only [List.length_append, List.length_map, List.length_replicate]
    omega
  · obtain ⟨h1, h2⟩ := tr e (by simp)
    rw [h2]
    exact sm.im i d h1
  · obtain ⟨h1, h2⟩ := tr e (by simp)
    rw [h2]
    exact sm.ow i io ds h1
  · obtain ⟨io1, ds1, q1⟩ := o1
    obtain ⟨io2, ds2, q2⟩ := o2
    obtain ⟨h1, h2⟩ := tr q1 (by simp)
    obtain ⟨h3, h4⟩ := tr q2 (by simp)
    rw [h2] at e1
    rw [h4] at e2
    exact sm.inj i j a ⟨_, _, h1⟩ ⟨_, _, h3⟩ e1 e2
theorem end_sim (ai : argsIn svs) (sm0 : Sim M F H (vs.map some) svs) (st : Stp F H (L2.start N vs) (svs ++ List.replicate (N.length - svs.length) .no) F' H' σ' ρ') (sm : Sim M F' H' σ' ρ') :
    Stp F H (vs.map some) svs F' H' (vs.map some) (outs svs ρ') ∧ Sim M F' H' (vs.map some) (outs svs ρ') ∧ (∀ b, Own (vs.map some) (outs svs ρ') b → ∃ (i : Nat) (ds : OC), ρ'[i]? = some (.ow true ds) ∧ σ'[i]? = some (some (V.ref b))) ∧
      ∀ b, Own (L2.start N vs) (svs ++ List.replicate (N.length - svs.length) .no) b → ∃ (i : Nat) (ds : OC), ρ'[i]? = some (.ow true ds) ∧ σ'[i]? = some (some (V.ref b)) := by
  have hl : vs.length = svs.length := by simpa using sm0.len
  have own0 : ∀ b, Own (L2.start N vs) (svs ++ List.replicate (N.length - svs.length) .no) b → ∃ (i : Nat) (ds : OC), svs[i]? = some (.ow true ds) ∧ (vs.map some)[i]? = some (some (V.ref b)) ∧ i < svs.length := fun b ⟨i, ⟨io, ds, e⟩, e2⟩ => by
    obtain ⟨h1, h2⟩ := pad_at e (by simp)
    rw [start_lo (by omega)] at e2
    rcases ai i _ h2 with ⟨d, z⟩ | ⟨ds', z⟩
    · cases z
    · cases z
      exact ⟨i, ds, h2, e2, h1⟩
  have toOwn : ∀ b, Own (L2.start N vs) (svs ++ List.replicate (N.length - svs.length) .no) b → Own (vs.map some) svs b := fun b z => by
    obtain ⟨i, ds, h1, h2, _⟩ := own0 b z
    exact ⟨i, ⟨true, ds, h1⟩, h2⟩
  have fromOwn : ∀ b, Own (vs.map some) svs b → Own (L2.start N vs) (svs ++ List.replicate (N.length - svs.length) .no) b := fun b ⟨i, ⟨io, ds, e⟩, e2⟩ => by
    have hi : i < svs.length := (List.getElem?_eq_some_iff.mp e).1
    exact ⟨i, ⟨io, ds, by rw [pad_lo hi]; exact e⟩, by rw [start_lo (by omega)]; exact e2⟩
  have io : ∀ {i : Nat} {ds : OC}, svs[i]? = some (.ow true ds) → σ'[i]? = (vs.map some)[i]? ∧ ∃ ds', ρ'[i]? = some (.ow true ds') := fun {i ds} h => by
    have hi : i < svs.length := (List.getElem?_eq_some_iff.mp h).1
    obtain ⟨e1, e2⟩ := st.io i ds (by rw [pad_lo hi]; exact h)
    rw [start_lo (by omega)] at e1
    exact ⟨e1, e2⟩
  have oat : ∀ {i : Nat} {sv : SV}, (outs svs ρ')[i]? = some sv → (∃ d, sv = .im d ∧ svs[i]? = some (.im d)) ∨ ∃ ds ds', sv = .ow true ds' ∧ svs[i]? = some (.ow true ds) ∧ ρ'[i]? = some (.ow true ds') := fun {i sv} h => by
    have hi : i < svs.length := by
      rw [← outs_len svs ρ']
      exact (List.getElem?_eq_some_iff.mp h).1
    rcases ai i _ (List.getElem?_eq_getElem hi) with ⟨d, e⟩ | ⟨ds, e⟩
    · have e2 : svs[i]? = some (.im d) := by rw [List.getElem?_eq_getElem hi, e]
      rw [outs_im e2] at h
      cases h
      exact .inl ⟨d, rfl, e2⟩
    · have e2 : svs[i]? = some (.ow true ds) := by rw [List.getElem?_eq_getElem hi, e]
      obtain ⟨_, ds', e3⟩ := io e2
      rw [outs_io e2 e3] at h
      cases h
      exact .inr ⟨ds, ds', rfl, e2, e3⟩
  have oown : ∀ b, Own (vs.map some) (outs svs ρ') b → ∃ (i : Nat) (ds ds' : OC), svs[i]? = some (.ow true ds) ∧ ρ'[i]? = some (.ow true ds') ∧ (vs.map some)[i]? = some (some (V.ref b)) := fun b ⟨i, ⟨q, ds, e⟩, e2⟩ => by
    rcases oat e with ⟨d, z, _⟩ | ⟨ds1, ds2, z, h1, h2⟩
    · cases z
    · exact ⟨i, ds1, ds2, h1, h2, e2⟩
  have back : ∀ b, Own (vs.map some) (outs svs ρ') b → Own (vs.map some) svs b := fun b z => by
    obtain ⟨i, ds, _, h1, _, h2⟩ := oown b z
    exact ⟨i, ⟨true, ds, h1⟩, h2⟩
  refine ⟨⟨st.same, fun b o h n nt => st.keep b o h (fun z => n (toOwn b z)) nt, fun b z => .inl (back b z), fun b o z => (st.newF b o z).elim .inl fun z => z.elim (fun z => .inr (.inl (toOwn b z))) fun z => .inr (.inr z), st.dom, fun i ds h => ?_, fun i ds h => ?_⟩,
    ⟨sm.sub0, sm.tabs, by rw [outs_len]; exact sm0.len, fun i d h => ?_, fun i q ds h => ?_, fun i j a o1 o2 e1 e2 => ?_⟩, fun b z => ?_, fun b z => ?_⟩
  · obtain ⟨_, ds', e2⟩ := io h
    exact ⟨rfl, ds', outs_io h e2⟩
  · rcases oat h with ⟨d, z, _⟩ | ⟨ds1, ds2, z, h1, h2⟩
    · cases z
    · exact ⟨ds1, h1⟩
  · rcases oat h with ⟨d', z, h1⟩ | ⟨ds1, ds2, z, h1, h2⟩
    · cases z
      obtain ⟨v, e, r⟩ := sm0.im i d h1
      exact ⟨v, e, r.up st.same⟩
    · cases z
  · rcases oat h with ⟨d', z, h1⟩ | ⟨ds1, ds2, z, h1, h2⟩
    · cases z
    · cases z
      obtain ⟨e1, _⟩ := io h1
      obtain ⟨a, ws, g1, g2⟩ := sm.ow i true ds h2
      rw [e1] at g1
      exact ⟨a, ws, g1, g2⟩
  · obtain ⟨q1, d1, z1⟩ := o1
    obtain ⟨q2, d2, z2⟩ := o2
    rcases oat z1 with ⟨d', z, _⟩ | ⟨ds1, ds2, z, h1, h2⟩
    · cases z
    · rcases oat z2 with ⟨d', z, _⟩ | ⟨ds3, ds4, z, h3, h4⟩
      · cases z
      · exact sm0.inj i j a ⟨_, _, h1⟩ ⟨_, _, h3⟩ e1 e2
  · obtain ⟨i, ds, ds', h1, h2, h3⟩ := oown b z
    obtain ⟨e1, _⟩ := io h1
    exact ⟨i, ds', h2, by rw [e1]; exact h3⟩
  · obtain ⟨i, ds, h1, h2, _⟩ := own0 b z
    obtain ⟨e1, ds', e2⟩ := io h1
    exact ⟨i, ds', e2, by rw [e1]; exact h2⟩
end
end
theorem fn_body {M : Mx} {X : Cx} {N ps : List Str} {body : List Stmt} {mb : DM Fl} {vs : List V} {H : Hp} {Q : VK} {E : XK} (hN : ps.length ≤ N.length) (hb : DSs X M (fun cls d _ H' => E cls d H') body mb) (h : spD M ps.length (mFn N.length mb) vs H Q E) :
    ∃ t, PSs X body t ∧ t { nx := fun _ H' => Q .non H', rt := Q } (L2.start N vs) H := by
  obtain ⟨F, svs, h1, ai, sm, hp⟩ := h
  obtain ⟨t, pt, qt⟩ := hb
  refine ⟨t, pt, qt _ H F _ _ (start_sim sm (by omega)) ?_⟩
  unfold mFn at hp
  cases e : mb (svs ++ List.replicate (N.length - svs.length) .no) with
  | bad =>
    rw [e] at hp
    exact hp.elim
  | ex x ρ' =>
    rw [e] at hp
    intro F' H' σ' cls d st' sm' ok'
    obtain ⟨st2, sm2, _⟩ := end_sim ai sm st' sm'
    exact hp F' H' cls d st2 sm2 ok'
  | ok fl ρ' =>
    rw [e] at hp
    have hp : Post M (fun cls d _ H' => E cls d H') (vs.map some) svs F H (mRet svs fl ρ') Q := hp
    cases fl with
    | nx =>
      intro F' H' σ' st' sm'
      obtain ⟨st2, sm2, _⟩ := end_sim ai sm st' sm'
      exact hp F' H' _ st2 sm2 Rep.non
    | bk => exact hp.elim
    | ct => exact hp.elim
    | rt r =>
      intro F' H' σ' v st' sm' ok'
      obtain ⟨st2, sm2, o1, o2⟩ := end_sim ai sm st' sm'
      cases r with
      | im d => exact hp F' H' v st2 sm2 ok'
      | ow ds =>
        obtain ⟨a, ws, e1, g1, g2, g3, g4, g5⟩ := ok'
        refine hp F' H' v st2 sm2 ⟨a, ws, e1, g1, g2, g3, fun z => g4 ?_, g5⟩
        obtain ⟨i, ds', q1, q2⟩ := o1 a z
        exact ⟨i, ⟨_, _, q1⟩, q2⟩
      | ot ds d =>
        obtain ⟨T', a, ws, x, e1, g1, g2, g3, g4, g5, g6, g7⟩ := ok'
        refine hp F' H' v st2 sm2 ⟨T', a, ws, x, e1, g1, g2, g3, g4, g5, fun z => g6 ?_, g7⟩
        obtain ⟨i, ds', q1, q2⟩ := o1 a z
        exact ⟨i, ⟨_, _, q1⟩, q2⟩
      | bt i d =>
        have hp : Post M (fun cls d _ H' => E cls d H') (vs.map some) svs F H (match ρ'[i]? with
          | some (.ow false (.ls ds)) => .ok (.ot ds d) (outs svs ρ')
          | _ => .bad) Q := hp
        obtain ⟨T', a, x, hT, hT2, _, hv, rx⟩ := ok'
        split at hp
        · rename_i ds hi
          obtain ⟨a2, ws, e1, g1, g2, g3⟩ := sm'.owl i false ds hi
          rw [hv] at e1
          cases e1
          have no : ∀ (l : Nat) (es : OC), ρ'[l]? = some (.ow true es) → σ'[l]? = some (some (V.ref a)) → False := fun l es q1 q2 => by
            have := sm'.inj l i a ⟨_, _, q1⟩ ⟨_, _, hi⟩ q2 hv
            subst this
            rw [hi] at q1
            cases q1
          refine hp F' H' _ st2 sm2 ⟨T', a, ws, x, hT, hT2, g1, g2, g3, rx, fun z => ?_, ?_⟩
          · obtain ⟨l, es, q1, q2⟩ := o1 a z
            exact no l es q1 q2
          · rcases st'.new a ⟨i, ⟨_, _, hi⟩, hv⟩ with z | z
            · obtain ⟨l, es, q1, q2⟩ := o2 a z
              exact (no l es q1 q2).elim
            · exact z
        · exact hp.elim
      | bo i =>
        have hp : Post M (fun cls d _ H' => E cls d H') (vs.map some) svs F H (match ρ'[i]? with
          | some (.ow false ds) => .ok (.ow ds) (outs svs ρ')
          | _ => .bad) Q := hp
        obtain ⟨_, hv⟩ := ok'
        split at hp
        · rename_i ds hi
          obtain ⟨a, ws, e1, g1, g2, g3⟩ := sm'.ow i false ds hi
          rw [hv] at e1
          cases e1
          have no : ∀ (l : Nat) (es : OC), ρ'[l]? = some (.ow true es) → σ'[l]? = some (some (V.ref a)) → False := fun l es q1 q2 => by
            have := sm'.inj l i a ⟨_, _, q1⟩ ⟨_, _, hi⟩ q2 hv
            subst this
            rw [hi] at q1
            cases q1
          refine hp F' H' _ st2 sm2 ⟨a, ws, rfl, g1, g2, g3, fun z => ?_, ?_⟩
          · obtain ⟨l, es, q1, q2⟩ := o1 a z
            exact no l es q1 q2
          · rcases st'.new a ⟨i, ⟨_, _, hi⟩, hv⟩ with z | z
            · obtain ⟨l, es, q1, q2⟩ := o2 a z
              exact (no l es q1 q2).elim
            · exact z
        · exact hp.elim
theorem fn_D {M : Mx} {P : Program} {w : World} {base : Heap} {x qual : Str} {st : Stmt} {f : Addr} {fd : FuncData} {N ps : List Str} {k : Nat} {mb : DM Fl} (Fu : Fun M.K x qual st f fd) (S : FnScope N ps (defScope st))
    (hb : ∀ (cdv : Value) (A : Around) (outer : List Env) (s : Shared) (H : Hp) (E : XK), Room k (A.deeper (envOfC qual (defScope st) s.heap.objs.size f cdv)) →
      DSs (cxOf (L2.CX P w) P w M.K M.mg base N qual (defScope st) f cdv A outer s H E) M (fun cls d _ H' => E cls d H') (defBody st) mb) :
    FnOk P w M.K M.mg base (L2.CX P w) (k + 1) f fd ps (spD M ps.length (mFn N.length mb)) := by
  have hN : ps.length ≤ N.length := by
    have := congrArg List.length S.pre
    rw [List.length_take] at this
    omega
  exact Fu.okX S (fun vs H Q E h => by
    obtain ⟨F, svs, h1, _⟩ := h
    exact h1) fun cdv A outer s H vs Q E hr h => fn_body hN (hb cdv A outer s H E hr) h
end DL

/- part -/
set_option Elab.async false
set_option linter.all false
set_option maxRecDepth 100000
set_option maxHeartbeats 4000000
namespace DL
open PySem PySem.Spec PyProof.Rows L2
section
variable {M : Mx} {W : WX} {X : Cx} {F H F' H' F1 H1 H0 : Hp} {σ : L2.St} {ρ ρ1 : SE}
variable {a b c e : Expr} {ma mb mc m : DM RV} {mt mu : DM Bool} {es : List Expr} {pos : Pos}
inductive Vws (M : Mx) (F H : Hp) : List V → List D → Prop
  | nil : Vws M F H [] []
  | cons {v : V} {vs : List V} {d : D} {ds : List D} : Vw M F H v d → Vws M F H vs ds → Vws M F H (v :: vs) (d :: ds)
def PostV (M : Mx) (W : WX) (σ : L2.St) (ρ : SE) (F H : Hp) (r : R (List D)) (Q : List V → Hp → Prop) : Prop := match r with
  | .bad => False
  | .ok ds ρ' => ∀ F' H' vs, Stp F H σ ρ F' H' σ ρ' → Sim M F' H' σ ρ' → Vws M F' H' vs ds → Q vs H'
  | .ex e ρ' => ∀ F' H' cls d, Stp F H σ ρ F' H' σ ρ' → Sim M F' H' σ ρ' → ExcOk M F' H' cls d e → W cls d σ H'
def DV (X : Cx) (M : Mx) (W : WX) (es : List Expr) (m : DM (List D)) : Prop := ∃ t, PA X es t ∧ ∀ σ H F ρ Q, Sim M F H σ ρ → PostV M W σ ρ F H (m ρ) Q → t σ H Q
def vNil : DM (List D) := fun ρ => .ok [] ρ
def vCons (ma : DM RV) (ms : DM (List D)) : DM (List D) := fun ρ => (ma ρ).bind fun x ρ1 => (ms ρ1).bind fun ds ρ2 => match look ρ2 x with
  | some d => .ok (d :: ds) ρ2
  | none => .bad
variable {mv : DM (List D)}
theorem dv_nil : DV X M W [] vNil := ⟨_, pa_nil, fun σ H F ρ Q sm h => h F H [] (Stp.refl _ _ _ _) sm .nil⟩
theorem PostV.from {r : R (List D)} {Q : List V → Hp → Prop} (st : Stp F H σ ρ F1 H1 σ ρ1) (h : PostV M W σ ρ F H r Q) : PostV M W σ ρ1 F1 H1 r Q := by
  cases r with
  | bad => exact h
  | ok a ρ2 => exact fun F2 H2 v st2 sm ok => h F2 H2 v (st.trans st2) sm ok
  | ex e ρ2 => exact fun F2 H2 cls d st2 sm ok => h F2 H2 cls d (st.trans st2) sm ok
theorem dv_cons (ha : DE X M W a ma) (hs : DV X M W es mv) (hst : starEach (a :: es) X.env = (false, eval a X.env) :: starEach es X.env := by rfl) : DV X M W (a :: es) (vCons ma mv) := by
  obtain ⟨te, pa, qa⟩ := ha
  obtain ⟨t, ps, qs⟩ := hs
  refine ⟨_, pa_cons pa ps hst, fun σ H F ρ Q sm h => ?_⟩
  refine qa σ H F ρ _ sm ?_
  unfold vCons at h
  cases e : ma ρ with
  | bad =>
    rw [e] at h
    exact h
  | ex x ρ1 =>
    rw [e] at h
    exact h
  | ok x ρ1 =>
    rw [e] at h
    intro F1 H1 v st1 sm1 ok1
    refine qs σ H1 F1 ρ1 _ sm1 ?_
    have h : PostV M W σ ρ F H ((mv ρ1).bind fun ds ρ2 => match look ρ2 x with
      | some d => .ok (d :: ds) ρ2
      | none => .bad) Q := h
    cases e2 : mv ρ1 with
    | bad =>
      rw [e2] at h
      exact h
    | ex y ρ2 =>
      rw [e2] at h
      exact fun F2 H2 cls d st2 sm ok => h F2 H2 cls d (st1.trans st2) sm ok
    | ok ds ρ2 =>
      rw [e2] at h
      have h : PostV M W σ ρ F H (match look ρ2 x with
        | some d => .ok (d :: ds) ρ2
        | none => .bad) Q := h
      cases e3 : look ρ2 x with
      | none =>
        rw [e3] at h
        exact h.elim
      | some d =>
        rw [e3] at h
        exact fun F2 H2 vs st2 sm2 ok2 => h F2 H2 _ (st1.trans st2) sm2 (.cons (ok1.view st2 sm2 e3) ok2)
def CbOk (M : Mx) (r : List V → Hp → VK → Prop) (g : List D → Option RV) : Prop := ∀ (F H : Hp) (vs : List V) (ds : List D) (rv : RV) (Q : VK), SubF F H → Vws M F H vs ds → g ds = some rv → (∀ F' H' v, Alc F H F' H' → RvNew M H F' H' v rv → Q v H') → r vs H Q
def dCb (g : List D → Option RV) (mv : DM (List D)) : DM RV := fun ρ => (mv ρ).bind fun ds ρ1 => ofO (g ds) ρ1
theorem PostV.goE {r : R (List D)} {Q : VK} {g : List D → SE → R RV} (h : Post M W σ ρ F H (r.bind g) Q) {Q' : List V → Hp → Prop}
    (k : ∀ a ρ1 F1 H1 v, r = .ok a ρ1 → Stp F H σ ρ F1 H1 σ ρ1 → Sim M F1 H1 σ ρ1 → Vws M F1 H1 v a → Post M W σ ρ F H (g a ρ1) Q → Q' v H1) : PostV M W σ ρ F H r Q' := by
  cases r with
  | bad => exact h
  | ok a ρ1 => exact fun F1 H1 v st sm ok => k a ρ1 F1 H1 v rfl st sm ok h
  | ex e ρ1 => exact h
theorem q_cb {t : TA} {r : List V → Hp → VK → Prop} {g : List D → Option RV} (qa : ∀ σ H F ρ Q, Sim M F H σ ρ → PostV M W σ ρ F H (mv ρ) Q → t σ H Q) (o : CbOk M r g) : ∀ σ H F ρ Q, Sim M F H σ ρ → Post M W σ ρ F H (dCb g mv ρ) Q → tCB r t σ H Q := fun σ H F ρ Q sm h => by
  refine qa σ H F ρ _ sm (PostV.goE h fun ds ρ1 F1 H1 vs _ st1 sm1 ok1 h1 => ?_)
  obtain ⟨rv, e, k⟩ := Post.fin' h1 st1 sm1
  exact o F1 H1 vs ds rv Q sm1.sub ok1 e k
variable {r : List V → Hp → VK → Prop} {g : List D → Option RV} {x : Str} {p : Pos}
theorem de_cb {id : String} (hc : CallR X (.builtin id) r) (o : CbOk M r g) (hv : bootBuiltins x = some (.builtin id)) (ha : DV X M W (a :: es) mv) (hm : X.mg x = none) (hg : Gl X x := by rfl) (hn : x ≠ "__name__" := by decide) (hdb : (x == ("__debug__" : Str)) = false := by decide)
    (he : starEach (a :: es) X.env = (false, eval a X.env) :: starEach es X.env := by rfl) (hpl : (backTo pos (starEach es X.env)).any (·.1) = false := by rfl) : DE X M W (.Call (.Name x p) (a :: es) [] pos) (dCb g mv) := by
  obtain ⟨t, pa, qa⟩ := ha
  exact ⟨_, pe_callB hc hg hm hv pa hn hdb he hpl, q_cb qa o⟩
theorem de_cty {T : String} (hc : CallR X (.type T) r) (o : CbOk M r g) (hv : bootBuiltins x = some (.type T)) (ha : DV X M W (a :: es) mv) (hm : X.mg x = none) (hg : Gl X x := by rfl) (hn : x ≠ "__name__" := by decide) (hdb : (x == ("__debug__" : Str)) = false := by decide)
    (he : starEach (a :: es) X.env = (false, eval a X.env) :: starEach es X.env := by rfl) (hpl : (backTo pos (starEach es X.env)).any (·.1) = false := by rfl) : DE X M W (.Call (.Name x p) (a :: es) [] pos) (dCb g mv) := by
  obtain ⟨t, pa, qa⟩ := ha
  exact ⟨_, pe_callTy hc hg hm hv pa hn hdb he hpl, q_cb qa o⟩
theorem vws1 {vs : List V} {d : D} (h : Vws M F H vs [d]) : ∃ v, vs = [v] ∧ Vw M F H v d := by
  cases h with
  | cons h1 h2 =>
    cases h2
    exact ⟨_, rfl, h1⟩
def gLen : List D → Option RV
  | [.lst ds] => some (.im (.int ds.length))
  | [.tup ds] => some (.im (.int ds.length))
  | [.scr ns] => some (.im (.int ns.length))
  | [.str x] => if x.length ≤ 1000000 then some (.im (.int x.length)) else none
  | _ => none
theorem cb_len : CbOk M (fun xs H Q => ∃ x n, xs = [x] ∧ LenV M.K x H n ∧ Q (.int n) H) gLen := by
  intro F H vs ds rv Q sub hv hg k
  unfold gLen at hg
  split at hg
  · cases hg
    obtain ⟨v, rfl, a, ws, e, h1, r⟩ := vws1 hv
    subst e
    refine ⟨_, _, rfl, .inl ⟨ws, .inl (.inl h1), rfl⟩, ?_⟩
    rw [r.length]
    exact k _ _ _ (Alc.refl sub) RvNew.int
  · cases hg
    obtain ⟨v, rfl, h⟩ := vws1 hv
    obtain ⟨a, ws, e, h1, r⟩ := vw_tup h
    subst e
    refine ⟨_, _, rfl, .inr ⟨ws, sub.sqT h1, rfl⟩, ?_⟩
    rw [r.length]
    exact k _ _ _ (Alc.refl sub) RvNew.int
  · rename_i ns
    cases hg
    obtain ⟨v, rfl, h⟩ := vws1 hv
    cases h with
    | scr h1 =>
      refine ⟨_, ns.length, rfl, .inl ⟨_, sub.sqL h1, (List.length_map _).symm⟩, k _ _ _ (Alc.refl sub) RvNew.int⟩
  · obtain ⟨hz, e⟩ := some_ite hg
    cases e
    obtain ⟨v, rfl, h⟩ := vws1 hv
    rw [vw_str h]
    exact ⟨_, _, rfl, ⟨szle hz, rfl⟩, k _ _ _ (Alc.refl sub) RvNew.int⟩
  · cases hg
def gAbs : List D → Option RV
  | [.int i] => some (.im (.int (if i < 0 then -i else i)))
  | _ => none
theorem cb_abs : CbOk M (fun xs H Q => ∃ i, xs = [.int i] ∧ Q (.int (if i < 0 then -i else i)) H) gAbs := by
  intro F H vs ds rv Q sub hv hg k
  unfold gAbs at hg
  split at hg
  · cases hg
    obtain ⟨v, rfl, h⟩ := vws1 hv
    rw [vw_int h]
    exact ⟨_, rfl, k _ _ _ (Alc.refl sub) RvNew.int⟩
  · cases hg
def gList : List D → Option RV
  | [.lst ds] => some (.ow (.ls ds))
  | [.tup ds] => some (.ow (.ls ds))
  | [.scr ns] => some (.ow (.ls (ns.map D.int)))
  | _ => none
theorem cb_list : CbOk M (fun xs H Q => ∃ p ys, xs = [.ref p] ∧ (SqL M.K H p ys ∨ SqT M.K H p ys) ∧ ∀ l, H l = none → Q (.ref l) (upd H l (.lst ys))) gList := by
  intro F H vs ds rv Q sub hv hg k
  unfold gList at hg
  split at hg
  · cases hg
    obtain ⟨v, rfl, a, ws, e, h1, r⟩ := vws1 hv
    subst e
    exact ⟨_, _, rfl, .inl (.inl (.inl h1)), fun l hl => new_lst sub r k hl⟩
  · cases hg
    obtain ⟨v, rfl, h⟩ := vws1 hv
    obtain ⟨a, ws, e, h1, r⟩ := vw_tup h
    subst e
    exact ⟨_, _, rfl, .inr (sub.sqT h1), fun l hl => new_lst sub r k hl⟩
  · rename_i ns
    cases hg
    obtain ⟨v, rfl, h⟩ := vws1 hv
    cases h with
    | scr h1 => exact ⟨_, _, rfl, .inl (sub.sqL h1), fun l hl => new_lst sub (Reps.ofInts ns) k hl⟩
  · cases hg
def asBls : List D → Option (List Bool)
  | [] => some []
  | .bl b :: r => (asBls r).map (b :: ·)
  | _ :: _ => none
theorem asBls_ok : ∀ {ds : List D} {bs : List Bool} {vs : List V}, asBls ds = some bs → Reps M F vs ds → vs = bs.map V.bl
  | [], _, _, e, .nil => by
    cases e
    rfl
  | d :: ds, bs, _, e, .cons r t => by
    cases d <;> first
      | (have e : (asBls ds).map _ = some bs := e
         obtain ⟨bs', e1, e2⟩ := map_some e
         subst e2
         cases r
         rw [asBls_ok e1 t]
         rfl)
      | cases e
def gAll : List D → Option RV
  | [.lst ds] => (asBls ds).map fun bs => .im (.bl (bs.all id))
  | _ => none
theorem cb_all : CbOk M (rAll M.K) gAll := by
  intro F H vs ds rv Q sub hv hg k
  unfold gAll at hg
  split at hg
  · obtain ⟨bs, e1, e2⟩ := map_some hg
    subst e2
    obtain ⟨v, rfl, a, ws, e, h1, r⟩ := vws1 hv
    subst e
    have ew := asBls_ok e1 r
    subst ew
    exact ⟨a, bs, rfl, .inl (.inl h1), k _ _ _ (Alc.refl sub) RvNew.bl⟩
  · cases hg
def gStr : List D → Option RV
  | [.int i] => if i.natAbs.log2 < 1920 then some (.im (.str (PySem.Str.ofString (toString i)))) else none
  | _ => none
theorem cb_str : CbOk M (fun xs H Q => ∃ i, xs = [.int i] ∧ i.natAbs.log2 < 1920 ∧ Q (.str (toString i)) H) gStr := by
  intro F H vs ds rv Q sub hv hg k
  unfold gStr at hg
  split at hg
  · obtain ⟨hz, e⟩ := some_ite hg
    cases e
    obtain ⟨v, rfl, h⟩ := vws1 hv
    rw [vw_int h]
    exact ⟨_, rfl, hz, k _ _ _ (Alc.refl sub) RvNew.str⟩
  · cases hg
def gInt : List D → Option RV
  | [.str x] => if x.length ≤ 640 then (PySem.intText? x).map fun n => .im (.int n) else none
  | _ => none
theorem cb_int : CbOk M (fun xs H Q => ∃ a n, xs = [.str a] ∧ PySem.intText? a = some n ∧ a.length ≤ 640 ∧ Q (.int n) H) gInt := by
  intro F H vs ds rv Q sub hv hg k
  unfold gInt at hg
  split at hg
  · split at hg
    · rename_i hz
      obtain ⟨n, e1, e2⟩ := map_some hg
      cases e2
      obtain ⟨v, rfl, h⟩ := vws1 hv
      rw [vw_str h]
      exact ⟨_, n, rfl, e1, hz, k _ _ _ (Alc.refl sub) RvNew.int⟩
    · cases hg
  · cases hg
def cutL {α : Type} (xs : List α) (lo hi : Option Int) : List α := (xs.drop (HT.sIx xs.length 0 lo)).take (HT.sIx xs.length xs.length hi - HT.sIx xs.length 0 lo)
theorem cut_rep {vs : List V} {ds : List D} (r : Reps M F vs ds) (lo hi : Option Int) : Reps M F (cutV vs lo hi) (cutL ds lo hi) := by
  unfold cutV cutL
  rw [r.length]
  exact (r.drop _).take _
def PostP (M : Mx) (W : WX) (σ : L2.St) (ρ : SE) (F H : Hp) (r : R (Option Int)) (Q : Option Int → Hp → Prop) : Prop := match r with
  | .bad => False
  | .ok i ρ' => ∀ F' H', Stp F H σ ρ F' H' σ ρ' → Sim M F' H' σ ρ' → Q i H'
  | .ex e ρ' => ∀ F' H' cls d, Stp F H σ ρ F' H' σ ρ' → Sim M F' H' σ ρ' → ExcOk M F' H' cls d e → W cls d σ H'
def DO (X : Cx) (M : Mx) (W : WX) (e : Option Expr) (m : DM (Option Int)) : Prop := ∃ t, PO X e t ∧ ∀ σ H F ρ Q, Sim M F H σ ρ → PostP M W σ ρ F H (m ρ) Q → t σ H Q
def oNone : DM (Option Int) := fun ρ => .ok none ρ
def asPart (r : RV) (ρ : SE) : R (Option Int) := match r with
  | .im (.int i) => .ok (some i) ρ
  | _ => .bad
def oSome (m : DM RV) : DM (Option Int) := fun ρ => (m ρ).bind asPart
theorem do_none : DO X M W none oNone := ⟨_, po_none, fun σ H F ρ Q sm h => h F H (Stp.refl _ _ _ _) sm⟩
theorem do_some (he : DE X M W e m) : DO X M W (some e) (oSome m) := by
  obtain ⟨t, p, q⟩ := he
  refine ⟨_, po_some p, fun σ H F ρ Q sm h => q σ H F ρ _ sm ?_⟩
  unfold oSome at h
  cases e1 : m ρ with
  | bad =>
    rw [e1] at h
    exact h
  | ex x ρ1 =>
    rw [e1] at h
    exact h
  | ok r ρ1 =>
    rw [e1] at h
    intro F1 H1 v st1 sm1 ok1
    cases r with
    | im d =>
      cases d with
      | int i =>
        cases ok1
        exact ⟨i, rfl, h F1 H1 st1 sm1⟩
      | _ => exact h.elim
    | _ => exact h.elim
def slD (d : D) (lo hi : Option Int) : Option RV := match d with
  | .lst ds => some (.ow (.ls (cutL ds lo hi)))
  | .tup ds => some (.im (.tup (cutL ds lo hi)))
  | .scr ns => some (.ow (.ls ((cutL ns lo hi).map D.int)))
  | .str z => if z.length ≤ 1000000 then some (.im (.str (cutS z lo hi))) else none
  | _ => none
abbrev rSlAll (K : PySem.W.Frag) : V → Option Int → Option Int → Hp → VK → Prop := fun x lo hi H Q => rSlL K x lo hi H Q ∨ (rSlA K x lo hi H Q ∨ rSlS x lo hi H Q)
theorem sl_all : SlR X (rSlAll X.K) := sl_list.or (sl_tupA.or sl_str)
theorem cut_whole {α : Type} {xs : List α} {lo hi : Option Int} (h1 : HT.sIx xs.length 0 lo = 0) (h2 : HT.sIx xs.length xs.length hi = xs.length) : cutL xs lo hi = xs := by
  unfold cutL
  rw [h1, h2]
  simp
theorem cutV_map {ns : List Int} {lo hi : Option Int} : cutV (ns.map V.int) lo hi = (cutL ns lo hi).map V.int := by
  unfold cutV cutL
  rw [List.length_map, List.map_take, List.map_drop]
theorem sl_ok (sub : SubF F H) {x : V} {d : D} {lo hi : Option Int} {rv : RV} {Q : VK} (hx : Vw M F H x d) (hg : slD d lo hi = some rv) (k : ∀ F' H' v, Alc F H F' H' → RvNew M H F' H' v rv → Q v H') : rSlAll M.K x lo hi H Q := by
  unfold slD at hg
  split at hg
  · cases hg
    obtain ⟨a, vs, e, h1, r⟩ := hx
    exact .inl ⟨a, vs, e, .inl (.inl h1), fun p hp => new_lst sub (cut_rep r lo hi) k hp⟩
  · cases hg
    have hx' := hx
    obtain ⟨a, vs, e, h1, r⟩ := vw_tup hx
    subst e
    refine .inr (.inl ⟨a, vs, rfl, sub.sqT h1, fun ⟨z1, z2⟩ => ?_, fun _ p hp => new_tup sub (cut_rep r lo hi) k hp⟩)
    rw [r.length] at z1 z2
    refine k _ _ _ (Alc.refl sub) ?_
    rw [cut_whole z1 z2]
    exact hx'
  · rename_i ns
    cases hg
    cases hx with
    | scr h1 =>
      refine .inl ⟨_, _, rfl, sub.sqL h1, fun p hp => ?_⟩
      rw [cutV_map]
      exact new_lst sub (Reps.ofInts _) k hp
  · obtain ⟨hz, e⟩ := some_ite hg
    cases e
    exact .inr (.inr ⟨_, vw_str hx, szle hz, k _ _ _ (Alc.refl sub) RvNew.str⟩)
  · cases hg
def dSl (ma : DM RV) (ml mh : DM (Option Int)) : DM RV := fun ρ => (ma ρ).bind fun x ρ1 => (ml ρ1).bind fun l ρ2 => (mh ρ2).bind fun u ρ3 => ofO ((look ρ3 x).bind fun d => slD d l u) ρ3
theorem PostP.goE {r : R (Option Int)} {Q : VK} {g : Option Int → SE → R RV} (h : Post M W σ ρ F H (r.bind g) Q) {Q' : Option Int → Hp → Prop}
    (k : ∀ a ρ1 F1 H1, Stp F H σ ρ F1 H1 σ ρ1 → Sim M F1 H1 σ ρ1 → Post M W σ ρ F H (g a ρ1) Q → Q' a H1) : PostP M W σ ρ F H r Q' := by
  cases r with
  | bad => exact h
  | ok a ρ1 => exact fun F1 H1 st sm => k a ρ1 F1 H1 st sm h
  | ex e ρ1 => exact h
theorem de_sl {lo hi : Option Expr} {ml mh : DM (Option Int)} {p2 : Pos} (ha : DE X M W a ma) (hl : DO X M W lo ml) (hh : DO X M W hi mh) (hK : M.K = X.K := by rfl) : DE X M W (.Subscript a (.Slice lo hi none p2) pos) (dSl ma ml mh) := by
  obtain ⟨ta, pa, qa⟩ := ha
  obtain ⟨tl, pl, ql⟩ := hl
  obtain ⟨th, ph, qh⟩ := hh
  refine ⟨_, pe_slice sl_all pa pl ph, fun σ H F ρ Q sm h => ?_⟩
  refine qa σ H F ρ _ sm (Post.go h fun x ρ1 F1 H1 v _ st1 sm1 ok1 h1 => ?_)
  refine ql σ H1 F1 ρ1 _ sm1 (PostP.goE (Post.from st1 h1) fun l ρ2 F2 H2 st2 sm2 h2 => ?_)
  refine qh σ H2 F2 ρ2 _ sm2 (PostP.goE (Post.from st2 h2) fun u ρ3 F3 H3 st3 sm3 h3 => ?_)
  obtain ⟨rv, e, k⟩ := Post.fin' h3 st3 sm3
  obtain ⟨d, l1, hg⟩ := bind_some1 e
  exact hK ▸ sl_ok sm3.sub (ok1.view (st2.trans st3) sm3 l1) hg k
end
end DL

/- part -/
set_option Elab.async false
set_option linter.all false
set_option maxRecDepth 100000
set_option maxHeartbeats 4000000
namespace DL
open PySem PySem.Spec PyProof.Rows L2
section
variable {M : Mx} {W : WX} {X : Cx} {F H F' H' F1 H1 F2 H2 H0 : Hp} {σ σ1 : L2.St} {ρ ρ1 ρ2 : SE}
variable {a b c e tg : Expr} {ma mb mc m : DM RV} {mt mu : DM Bool} {es : List Expr} {pos p : Pos} {mv : DM (List D)} {ms : DM (List AV)}
theorem it_range (lo : Int) (n : Nat) : ItOk M (Itr lo n) F ((List.range n).map fun (i : Nat) => D.int (lo + i)) := fun i F2 H2 sa sub => by
  refine ⟨fun d hd => ?_, fun hl => by
    rw [List.length_map, List.length_range] at hl
    exact hl⟩
  rw [List.getElem?_map] at hd
  obtain ⟨j, h1, h2⟩ := map_some hd
  obtain ⟨hi, hj⟩ := List.getElem?_eq_some_iff.mp h1
  rw [List.getElem_range] at hj
  rw [List.length_range] at hi
  subst hj h2
  refine ⟨hi, fun x H' y => ?_⟩
  obtain ⟨e1, e2⟩ := y
  subst e1 e2
  exact ⟨F2, Alc.refl sub, .int _⟩
def rngOk (j : Int) : Bool := decide (-1000000000000 ≤ j ∧ j ≤ 1000000000000)
def iRange1 (mv : DM (List D)) : DM (List D) := fun ρ => (mv ρ).bind fun ds ρ1 => match ds with
  | [.int j] => if rngOk j = true then .ok ((List.range j.toNat).map fun (i : Nat) => D.int (0 + (i : Int))) ρ1 else .bad
  | _ => .bad
theorem PostV.goI {r : R (List D)} {Q : It → Hp → Prop} {g : List D → SE → R (List D)} (h : PostI M W σ ρ F H (r.bind g) Q) {Q' : List V → Hp → Prop}
    (k : ∀ a ρ1 F1 H1 v, r = .ok a ρ1 → Stp F H σ ρ F1 H1 σ ρ1 → Sim M F1 H1 σ ρ1 → Vws M F1 H1 v a → PostI M W σ ρ F H (g a ρ1) Q → Q' v H1) : PostV M W σ ρ F H r Q' := by
  cases r with
  | bad => exact h
  | ok a ρ1 => exact fun F1 H1 v st sm ok => k a ρ1 F1 H1 v rfl st sm ok h
  | ex e ρ1 => exact h
theorem di_range1 (ha : DV X M W [a] mv) (hm : X.mg "range" = none) (hg : Gl X "range" := by rfl) (hs : starEach [a] X.env = [(false, eval a X.env)] := by rfl) : DI X M W tg (.Call (.Name "range" p) [a] [] pos) (iRange1 mv) := by
  obtain ⟨t, pa, qa⟩ := ha
  refine ⟨_, pi_range1 hg hm pa hs, fun σ H F ρ Q sm h => ?_⟩
  refine qa σ H F ρ _ sm (PostV.goI h fun ds ρ1 F1 H1 vs e0 st1 sm1 ok1 h1 => ?_)
  clear e0
  split at h1
  · rename_i j
    split at h1
    · rename_i hj
      obtain ⟨v, rfl, hv⟩ := vws1 ok1
      have hj2 : -1000000000000 ≤ j ∧ j ≤ 1000000000000 := of_decide_eq_true hj
      exact ⟨j, by rw [vw_int hv], by omega, by omega, h1 F1 H1 _ st1 sm1 (it_range 0 j.toNat)⟩
    · exact h1.elim
  · exact h1.elim
def zipD (xs ys : List D) : List D := List.zipWith (fun x y => D.tup [x, y]) xs ys
theorem zip_get {xs ys : List D} {i : Nat} {d : D} (h : (zipD xs ys)[i]? = some d) : ∃ x y, xs[i]? = some x ∧ ys[i]? = some y ∧ d = .tup [x, y] := by
  unfold zipD at h
  rw [List.getElem?_zipWith] at h
  split at h
  · rename_i x y h1 h2
    exact ⟨x, y, h1, h2, (Option.some.inj h).symm⟩
  · cases h
theorem PostA.goI {r : R (List AV)} {Q : It → Hp → Prop} {g : List AV → SE → R (List D)} (h : PostI M W σ ρ F H (r.bind g) Q) {Q' : List V → Hp → Prop}
    (k : ∀ a ρ1 F1 H1 v, r = .ok a ρ1 → Stp F H σ ρ F1 H1 σ ρ1 → Sim M F1 H1 σ ρ1 → AvsOk M F1 σ ρ1 v a → PostI M W σ ρ F H (g a ρ1) Q → Q' v H1) : PostA M W σ ρ F H r Q' := by
  cases r with
  | bad => exact h
  | ok a ρ1 => exact fun F1 H1 v st sm ok => k a ρ1 F1 H1 v rfl st sm ok h
  | ex e ρ1 => exact h
def wipeR (ρ : SE) : List Nat → SE
  | [] => ρ
  | v :: vs => (wipeR ρ vs).set v .no
def rest (vs : List Nat) (ρ ρ' : SE) : SE := ρ'.mapIdx fun i sv => if i ∈ vs then (ρ[i]?).getD .no else sv
def noOw (ρ : SE) (vs : List Nat) : Bool := vs.all fun i => match ρ[i]? with
  | some (.ow _ _) => false
  | _ => true
def noEx {α : Type} : R α → R α
  | .ex _ _ => .bad
  | r => r
def cTurn (vs : List Nat) (gm : D → SE → R Unit) (mt : DM Bool) (me : DM RV) (d : D) : DM (Option D) := fun ρ => (noEx (gm d (wipeR ρ vs))).bind fun _ ρ1 => (noEx (mt ρ1)).bind fun k ρ2 =>
  if k = true then (noEx (dFz me ρ2)).bind fun y ρ3 => .ok (some y) (rest vs ρ ρ3) else .ok none (rest vs ρ ρ2)
def addO (acc : List D) : Option D → List D
  | some y => acc ++ [y]
  | none => acc
def cLoop (vs : List Nat) (gm : D → SE → R Unit) (mt : DM Bool) (me : DM RV) : List D → List D → SE → R (List D)
  | [], acc, ρ => .ok acc ρ
  | d :: ds, acc, ρ => if (noOw ρ vs && decide (acc.length < 1000000)) = true then (cTurn vs gm mt me d ρ).bind fun o ρ1 => cLoop vs gm mt me ds (addO acc o) ρ1 else .bad
def dLc (vs : List Nat) (mi : DM (List D)) (gm : D → SE → R Unit) (mt : DM Bool) (me : DM RV) : DM RV := fun ρ => (mi ρ).bind fun ds ρ1 => (cLoop vs gm mt me ds [] ρ1).bind fun ys ρ2 => .ok (.ow (.ls ys)) ρ2
theorem wipeR_len (ρ : SE) : ∀ vs, (wipeR ρ vs).length = ρ.length
  | [] => rfl
  | v :: vs => by
    unfold wipeR
    rw [List.length_set, wipeR_len ρ vs]
theorem wipeR_out {ρ : SE} {i : Nat} : ∀ {vs : List Nat}, i ∉ vs → (wipeR ρ vs)[i]? = ρ[i]?
  | [], _ => rfl
  | v :: vs, h => by
    unfold wipeR
    rw [List.getElem?_set_ne (fun z => h (by rw [z]; exact List.mem_cons_self))]
    exact wipeR_out fun z => h (List.mem_cons_of_mem _ z)
theorem wipeR_in {ρ : SE} {i : Nat} {sv : SV} : ∀ {vs : List Nat}, i ∈ vs → (wipeR ρ vs)[i]? = some sv → sv = .no
  | v :: vs, h, e => by
    unfold wipeR at e
    by_cases hv : v = i
    · subst hv
      exact set_eq e
    · rw [List.getElem?_set_ne hv] at e
      rcases List.mem_cons.mp h with z | z
      · exact (hv z.symm).elim
      · exact wipeR_in z e
theorem wipe_out' {σ : L2.St} {i : Nat} {vs : List Nat} (h : i ∉ vs) : (L2.wipe σ vs)[i]? = σ[i]? := L2.wipe_out h
theorem wipe_sim {vs : List Nat} (sm : Sim M F H σ ρ) : Sim M F H (L2.wipe σ vs) (wipeR ρ vs) := by
  have tr : ∀ {i : Nat} {sv : SV}, (wipeR ρ vs)[i]? = some sv → sv ≠ .no → ρ[i]? = some sv ∧ (L2.wipe σ vs)[i]? = σ[i]? := fun {i sv} h hne => by
    by_cases hi : i ∈ vs
    · exact (hne (wipeR_in hi h)).elim
    · rw [wipeR_out hi] at h
      exact ⟨h, wipe_out' hi⟩
  refine ⟨sm.sub0, sm.tabs, by rw [L2.wipe_length, wipeR_len]; exact sm.len, fun i d e => ?_, fun i io ds e => ?_, fun i j a o1 o2 e1 e2 => ?_⟩
  · obtain ⟨h1, h2⟩ := tr e (by simp)
    rw [h2]
    exact sm.im i d h1
  · obtain ⟨h1, h2⟩ := tr e (by simp)
    rw [h2]
    exact sm.ow i io ds h1
  · obtain ⟨io1, ds1, q1⟩ := o1
    obtain ⟨io2, ds2, q2⟩ := o2
    obtain ⟨h1, h2⟩ := tr q1 (by simp)
    obtain ⟨h3, h4⟩ := tr q2 (by simp)
    rw [h2] at e1
    rw [h4] at e2
    exact sm.inj i j a ⟨_, _, h1⟩ ⟨_, _, h3⟩ e1 e2
theorem noOw_at {vs : List Nat} (h : noOw ρ vs = true) {i : Nat} (hi : i ∈ vs) : ¬ isOw ρ i := fun ⟨io, ds, e⟩ => by
  have h2 := List.all_eq_true.mp h i hi
  rw [e] at h2
  cases h2
theorem rest_at {vs : List Nat} {ρ' : SE} {i : Nat} {sv : SV} (hl : ρ'.length = ρ.length) (h : (rest vs ρ ρ')[i]? = some sv) : (i ∈ vs ∧ ρ[i]? = some sv) ∨ (i ∉ vs ∧ ρ'[i]? = some sv) := by
  unfold rest at h
  rw [List.getElem?_mapIdx] at h
  obtain ⟨sw, e1, e2⟩ := map_some h
  by_cases hi : i ∈ vs
  · rw [if_pos hi] at e2
    have lt : i < ρ.length := by
      rw [← hl]
      exact (List.getElem?_eq_some_iff.mp e1).1
    rw [List.getElem?_eq_getElem lt] at e2
    exact .inl ⟨hi, by rw [List.getElem?_eq_getElem lt, ← e2]; rfl⟩
  · rw [if_neg hi] at e2
    subst e2
    exact .inr ⟨hi, e1⟩
theorem rest_out {vs : List Nat} {ρ' : SE} {i : Nat} (hi : i ∉ vs) : (rest vs ρ ρ')[i]? = ρ'[i]? := by
  unfold rest
  rw [List.getElem?_mapIdx]
  cases e : ρ'[i]? with
  | none => rfl
  | some sv => simp [hi]
theorem rest_sim {vs : List Nat} {ρ' : SE} (sm : Sim M F H σ ρ) (no : noOw ρ vs = true) (hw : ∀ j, j ∉ vs → σ1[j]? = σ[j]?) (st : Stp F H (L2.wipe σ vs) (wipeR ρ vs) F' H' σ1 ρ') (sm' : Sim M F' H' σ1 ρ') (hl : ρ'.length = ρ.length) :
    Stp F H σ ρ F' H' σ (rest vs ρ ρ') ∧ Sim M F' H' σ (rest vs ρ ρ') := by
  have o1 : ∀ b, Own (L2.wipe σ vs) (wipeR ρ vs) b → Own σ ρ b := fun b ⟨i, ⟨io, ds, e⟩, e2⟩ => by
    by_cases hi : i ∈ vs
    · cases wipeR_in hi e
    · rw [wipeR_out hi] at e
      rw [wipe_out' hi] at e2
      exact ⟨i, ⟨io, ds, e⟩, e2⟩
  have o3 : ∀ {i : Nat}, isOw (rest vs ρ ρ') i → i ∉ vs ∧ isOw ρ' i := fun {i} ⟨io, ds, e⟩ => by
    rcases rest_at hl e with ⟨hi, e⟩ | ⟨hi, e⟩
    · exact (noOw_at no hi ⟨io, ds, e⟩).elim
    · exact ⟨hi, io, ds, e⟩
  have o2 : ∀ b, Own σ (rest vs ρ ρ') b → Own σ1 ρ' b := fun b ⟨i, o, e2⟩ => by
    obtain ⟨hi, o'⟩ := o3 o
    exact ⟨i, o', by rw [hw i hi]; exact e2⟩
  refine ⟨⟨st.same, fun b o h n nt => st.keep b o h (fun z => n (o1 b z)) nt, fun b z => (st.new b (o2 b z)).elim (fun z => .inl (o1 b z)) .inr, fun b o z => (st.newF b o z).elim .inl fun z => z.elim (fun z => .inr (.inl (o1 b z))) fun z => .inr (.inr z), st.dom, fun i ds e => ⟨rfl, ?_⟩, fun i ds e => ?_⟩,
    ⟨sm'.sub0, sm'.tabs, by unfold rest; rw [List.length_mapIdx, hl]; exact sm.len, fun i d e => ?_, fun i io ds e => ?_, fun i j a p1 p2 e1 e2 => ?_⟩⟩
  · by_cases hi : i ∈ vs
    · exact (noOw_at no hi ⟨_, _, e⟩).elim
    · obtain ⟨_, ds', e2⟩ := st.io i ds (by rw [wipeR_out hi]; exact e)
      exact ⟨ds', by rw [rest_out hi]; exact e2⟩
  · rcases rest_at hl e with ⟨hi, e⟩ | ⟨hi, e⟩
    · exact ⟨ds, e⟩
    · obtain ⟨ds', e2⟩ := st.noio i ds e
      rw [wipeR_out hi] at e2
      exact ⟨ds', e2⟩
  · rcases rest_at hl e with ⟨hi, e⟩ | ⟨hi, e⟩
    · obtain ⟨v, e1, r⟩ := sm.im i d e
      exact ⟨v, e1, r.up st.same⟩
    · rw [← hw i hi]
      exact sm'.im i d e
  · rcases rest_at hl e with ⟨hi, e⟩ | ⟨hi, e⟩
    · exact (noOw_at no hi ⟨_, _, e⟩).elim
    · rw [← hw i hi]
      exact sm'.ow i io ds e
  · obtain ⟨h1, q1⟩ := o3 p1
    obtain ⟨h2, q2⟩ := o3 p2
    exact sm'.inj i j a q1 q2 (by rw [hw i h1]; exact e1) (by rw [hw j h2]; exact e2)
end
end DL

/- part -/
set_option Elab.async false
set_option linter.all false
set_option maxRecDepth 100000
set_option maxHeartbeats 4000000
namespace DL
open PySem PySem.Spec PyProof.Rows L2
section
variable {M : Mx} {W : WX} {X : Cx} {F H F' H' F1 H1 F2 H2 H0 : Hp} {σ σ1 : L2.St} {ρ ρ1 ρ2 : SE}
variable {a b c e tg : Expr} {ma mb mc m : DM RV} {mt mu : DM Bool} {es : List Expr} {pos p : Pos} {mv : DM (List D)} {ms : DM (List AV)}
theorem free_upd {F0 : Hp} {σ0 : L2.St} {ρ0 : SE} {x : Addr} {vs ws : List V} (st : Stp F0 H0 σ0 ρ0 F H σ ρ) (sm : Sim M F H σ ρ) (hx : H x = some (.lst vs)) (n0 : Fre H0 x) (nF : F x = none) (no : ¬ Own σ ρ x) :
    Stp F0 H0 σ0 ρ0 F (upd H x (.lst ws)) σ ρ ∧ Sim M F (upd H x (.lst ws)) σ ρ := by
  have tb : LamX.Tabs M.T (upd H x (.lst ws)) := tabs_updG (M := M) (F := F) (oc := .ls []) (o := .lst []) (H := upd H x (.lst [])) upd_same (.ls .nil) (fun p hp => by
    obtain ⟨ps, h1, h2, h3⟩ := sm.tabs p hp
    refine ⟨ps, ?_, h2, fun pos cv hc => ?_⟩
    · rw [upd_ne]
      · exact h1
      · intro z
        rw [z, hx] at h1
        cases h1
    · obtain ⟨c, e1, e2⟩ := h3 pos cv hc
      refine ⟨c, e1, ?_⟩
      rw [upd_ne]
      · exact e2
      · intro z
        rw [z, hx] at e2
        cases e2) |> fun z => by rw [upd_upd] at z; exact z
  refine ⟨⟨st.same, fun b o h n nt => ?_, st.new, st.newF, fun b z => ?_, st.io, st.noio⟩, ⟨⟨⟨fun b o h nb => ?_, fun b n vs h => ?_⟩, sm.ntb⟩, tb, sm.len, sm.im, fun i io ds z => ?_, sm.inj⟩⟩
  · rw [upd_ne (n0.ne h nt)]
    exact st.keep b o h n nt
  · exact st.dom b z.back
  · rw [upd_ne (ne_of_none h nF)]
    exact sm.sub.go b o h nb
  · rw [upd_ne (ne_of_none h nF)]
    exact sm.sub.bk b n vs h
  · obtain ⟨a, us, e1, e2, e3, e4⟩ := sm.ow i io ds z
    refine ⟨a, us, e1, ?_, e3, e4⟩
    rw [upd_ne]
    · exact e2
    · intro z2
      subst z2
      exact no ⟨i, ⟨io, ds, z⟩, e1⟩
theorem wipe_but {vs sl : List Nat} (hs : ∀ i ∈ sl, i ∈ vs) (b : But sl (L2.wipe σ vs) σ1) : L2.wipe σ1 vs = L2.wipe σ vs ∧ ∀ j, j ∉ vs → σ1[j]? = σ[j]? := by
  have h1 : ∀ j, j ∉ vs → σ1[j]? = σ[j]? := fun j hj => by
    rw [b.2 j fun z => hj (hs j z), wipe_out' hj]
  refine ⟨List.ext_getElem? fun j => ?_, h1⟩
  have hl : σ1.length = σ.length := by rw [b.1, L2.wipe_length]
  by_cases hj : j ∈ vs
  · have ww : ∀ τ : L2.St, τ.length = σ.length → (L2.wipe τ vs)[j]? = if j < σ.length then some none else none := fun τ ht => by
      by_cases lt : j < σ.length
      · rw [if_pos lt]
        have lt2 : j < (L2.wipe τ vs).length := by
          rw [L2.wipe_length, ht]
          exact lt
        cases q : (L2.wipe τ vs)[j]? with
        | none =>
          rw [List.getElem?_eq_getElem lt2] at q
          cases q
        | some o =>
          cases o with
          | none => rfl
          | some v => exact ((L2.wipe_some q).2 hj).elim
      · rw [if_neg lt]
        exact List.getElem?_eq_none (by rw [L2.wipe_length, ht]; omega)
    rw [ww σ1 hl, ww σ rfl]
  · rw [wipe_out' hj, wipe_out' hj]
    exact h1 j hj
def W0 : WX := fun _ _ _ _ => False
def DTs (X : Cx) (M : Mx) (W : WX) (es : List Expr) (m : DM Bool) : Prop := ∃ te, PTs X es te ∧ ∀ σ H F ρ Q, Sim M F H σ ρ → PostT M W σ ρ F H (m ρ) Q → te σ H Q
def tYesD : DM Bool := fun ρ => .ok true ρ
theorem dts_nil : DTs X M W [] tYesD := ⟨_, pts_nil, fun σ H F ρ Q sm h => h F H (Stp.refl _ _ _ _) sm⟩
theorem q_lc {wi : TI} {g : TG} {tt : TT} {te : TE} {vs sl : List Nat} {mi : DM (List D)} {gm : D → SE → R Unit} {me : DM RV} (hsl : ∀ i ∈ sl, i ∈ vs) (nx : NoEx gm) (qi : ∀ σ H F ρ Q, Sim M F H σ ρ → PostI M W σ ρ F H (mi ρ) Q → wi σ H Q)
    (qg : ∀ v d σ H F ρ (Q : L2.St → Hp → Prop), Sim M F H σ ρ → Rep M F v d → (∃ ρ', gm d ρ = .ok () ρ' ∧ ∀ σ', But sl σ σ' → (∀ F0 H0 σ0 ρ0, Stp F0 H0 σ0 ρ0 F H σ ρ → Stp F0 H0 σ0 ρ0 F H σ' ρ') → Sim M F H σ' ρ' → Q σ' H) → g v σ H Q)
    (qt : ∀ σ H F ρ Q, Sim M F H σ ρ → PostT M W0 σ ρ F H (mt ρ) Q → tt σ H Q) (qe : ∀ σ H F ρ Q, Sim M F H σ ρ → Post M W0 σ ρ F H (me ρ) Q → te σ H Q) : ∀ σ H F ρ Q, Sim M F H σ ρ → Post M W σ ρ F H (dLc vs mi gm mt me ρ) Q → tLc wi g tt te vs σ H Q := fun σ H F ρ Q sm h => by
  refine qi σ H F ρ _ sm ?_
  unfold dLc at h
  cases e0 : mi ρ with
  | bad =>
    rw [e0] at h
    exact h
  | ex x ρ1 =>
    rw [e0] at h
    exact h
  | ok ds ρ1 =>
    rw [e0] at h
    intro F1 H1 J st1 sm1 it D hD
    have h : Post M W σ ρ F H ((cLoop vs gm mt me ds [] ρ1).bind fun ys ρ2 => .ok (.ow (.ls ys)) ρ2) Q := h
    have hD0 : Fre H D := st1.dom D (.of hD)
    have nF1 : F1 D = none := sm1.sub.free hD
    have nO1 : ¬ Own σ ρ1 D := fun z => by
      obtain ⟨_, ws, e, _⟩ := sm1.ownF z
      rw [hD] at e
      cases e
    have al0 := Alc.new (o := HO.lst []) sm1.sub hD
    refine ⟨fun i k H' => k = ds.length - i ∧ i ≤ ds.length ∧ ∃ F' ρ' acc av, Same F1 F' ∧ Stp F H σ ρ F' H' σ ρ' ∧ Sim M F' H' σ ρ' ∧ H' D = some (.lst av) ∧ F' D = none ∧ ¬ Own σ ρ' D ∧ Reps M F' av acc ∧ Post M W σ ρ F H ((cLoop vs gm mt me (ds.drop i) acc ρ').bind fun ys ρ2 => .ok (.ow (.ls ys)) ρ2) Q,
      ⟨ds.length, by simp, Nat.zero_le _, F1, ρ1, [], [], Same.refl _, st1.trans (al0.stp _ _), sm1.alc al0, upd_same, nF1, nO1, .nil, h⟩, ?_⟩
    rintro i k H2 ⟨rfl, hi, F2, ρ2, acc, av, sa, st2, sm2, hd2, nF2, nO2, ra, h2⟩
    by_cases lt : i < ds.length
    · have ed : ds.drop i = ds[i] :: ds.drop (i + 1) := List.drop_eq_getElem_cons lt
      rw [ed] at h2
      obtain ⟨g1, g2⟩ := (it i F2 H2 sa sm2.sub).1 ds[i] (List.getElem?_eq_getElem lt)
      refine .inr ⟨g1, fun H' => ∃ F' ρ' acc av, Same F1 F' ∧ Stp F H σ ρ F' H' σ ρ' ∧ Sim M F' H' σ ρ' ∧ H' D = some (.lst av) ∧ F' D = none ∧ ¬ Own σ ρ' D ∧ Reps M F' av acc ∧ Post M W σ ρ F H ((cLoop vs gm mt me (ds.drop (i + 1)) acc ρ').bind fun ys ρ2 => .ok (.ow (.ls ys)) ρ2) Q, fun H' q => ⟨ds.length - (i + 1), by omega, rfl, lt, q⟩, fun x H3 y => ?_⟩
      obtain ⟨F3, al, rx⟩ := g2 x H3 y
      have sm3 := sm2.alc al
      have hd3 := al.sameH _ _ hd2
      have nF3 := al.free nF2 hd2
      have h2 : Post M W σ ρ F H ((if (noOw ρ2 vs && decide (acc.length < 1000000)) = true then (cTurn vs gm mt me ds[i] ρ2).bind fun o ρ1 => cLoop vs gm mt me (ds.drop (i + 1)) (addO acc o) ρ1 else .bad).bind fun ys ρ2 => .ok (.ow (.ls ys)) ρ2) Q := h2
      by_cases cnd : (noOw ρ2 vs && decide (acc.length < 1000000)) = true
      · rw [if_pos cnd] at h2
        obtain ⟨no2, lt2⟩ := Bool.and_eq_true_iff.mp cnd
        have lt2 : acc.length < 1000000 := of_decide_eq_true lt2
        have smw := wipe_sim (vs := vs) sm3
        have nOw : ¬ Own (L2.wipe σ vs) (wipeR ρ2 vs) D := fun ⟨l, ⟨io, es, z⟩, z2⟩ => by
          by_cases hl : l ∈ vs
          · cases wipeR_in hl z
          · rw [wipeR_out hl] at z
            rw [wipe_out' hl] at z2
            exact nO2 ⟨l, ⟨io, es, z⟩, z2⟩
        unfold cTurn at h2
        cases eg : gm ds[i] (wipeR ρ2 vs) with
        | bad =>
          rw [eg] at h2
          exact h2.elim
        | ex x2 ρ3 => exact (nx _ _ _ _ eg).elim
        | ok u ρ3 =>
          rw [eg] at h2
          refine qg x ds[i] (L2.wipe σ vs) H3 F3 (wipeR ρ2 vs) _ smw rx ⟨ρ3, eg, fun σ3 bu st3 sm3' => ?_⟩
          obtain ⟨w1, w2⟩ := wipe_but hsl bu
          refine ⟨w1, ?_⟩
          have st3 := st3 _ _ _ _ (Stp.refl F3 H3 (L2.wipe σ vs) (wipeR ρ2 vs))
          have nO3 : ¬ Own σ3 ρ3 D := fun z => by
            rcases st3.new D z with z | z
            · exact nOw z
            · exact (z.lst hd3).elim
          refine qt σ3 H3 F3 ρ3 _ sm3' ?_
          cases et : mt ρ3 with
          | bad =>
            rw [show noEx (.ok u ρ3) = R.ok u ρ3 from rfl] at h2
            simp only [R.bind, et, noEx] at h2
            exact h2.elim
          | ex x2 ρ4 =>
            rw [show noEx (.ok u ρ3) = R.ok u ρ3 from rfl] at h2
            simp only [R.bind, et, noEx] at h2
            exact h2.elim
          | ok b ρ4 =>
            rw [show noEx (.ok u ρ3) = R.ok u ρ3 from rfl] at h2
            have h2 : Post M W σ ρ F H (((if b = true then (noEx (dFz me ρ4)).bind fun y ρ5 => .ok (some y) (rest vs ρ2 ρ5) else .ok none (rest vs ρ2 ρ4)).bind fun o ρ1 => cLoop vs gm mt me (ds.drop (i + 1)) (addO acc o) ρ1).bind fun ys ρ2 => .ok (.ow (.ls ys)) ρ2) Q := by
              have z := h2
              simp only [R.bind, et, noEx] at z ⊢
              exact z
            intro F4 H4 st4 sm4
            have hd4 : H4 D = some (.lst av) := st4.keep _ _ hd3 nO3 (fun ps z => by cases z)
            have nF4 : F4 D = none := by
              cases z : F4 D with
              | none => rfl
              | some o =>
                rcases st4.newF D o z with z | z | z
                · rw [nF3] at z
                  cases z
                · exact (nO3 z).elim
                · exact (z.lst hd3).elim
            have nO4 : ¬ Own σ3 ρ4 D := fun z => by
              rcases st4.new D z with z | z
              · exact nO3 z
              · exact (z.lst hd3).elim
            have lens : ∀ {ρx : SE}, σ3.length = ρx.length → ρx.length = ρ2.length := fun {ρx} z => by
              rw [← z, bu.1, L2.wipe_length, sm2.len]
            cases b with
            | false =>
              rw [if_neg Bool.false_ne_true] at h2
              rw [if_neg Bool.false_ne_true]
              have st34 := st3.trans st4
              obtain ⟨st5, sm5⟩ := rest_sim sm3 no2 w2 st34 sm4 (lens sm4.len)
              refine ⟨F4, _, acc, av, (sa.trans al.same).trans st34.same, st2.trans ((al.stp σ ρ2).trans st5), sm5, hd4, nF4, fun z => ?_, ra.up (al.same.trans st34.same), h2⟩
              rcases st5.new D z with z | z
              · exact nO2 z
              · exact (z.lst hd3).elim
            | true =>
              rw [if_pos rfl] at h2
              rw [if_pos rfl]
              refine qe σ3 H4 F4 ρ4 _ sm4 (PostD.go ?_)
              have h2 : Post M W σ ρ F H ((((noEx ((me ρ4).bind fz)).bind fun y ρ5 => .ok (some y) (rest vs ρ2 ρ5)).bind fun o ρ1 => cLoop vs gm mt me (ds.drop (i + 1)) (addO acc o) ρ1).bind fun ys ρ2 => .ok (.ow (.ls ys)) ρ2) Q := h2
              cases ee : (me ρ4).bind fz with
              | bad =>
                rw [ee] at h2
                exact h2.elim
              | ex x2 ρ5 =>
                rw [ee] at h2
                exact h2.elim
              | ok y ρ5 =>
                rw [ee] at h2
                have h2 : Post M W σ ρ F H ((cLoop vs gm mt me (ds.drop (i + 1)) (acc ++ [y]) (rest vs ρ2 ρ5)).bind fun ys ρ2 => .ok (.ow (.ls ys)) ρ2) Q := h2
                intro F5 H5 w st5 sm5 rw5
                have hd5 : H5 D = some (.lst av) := st5.keep _ _ hd4 nO4 (fun ps z => by cases z)
                have nF5 : F5 D = none := by
                  cases z : F5 D with
                  | none => rfl
                  | some o =>
                    rcases st5.newF D o z with z | z | z
                    · rw [nF4] at z
                      cases z
                    · exact (nO4 z).elim
                    · exact (z.lst hd4).elim
                have st35 := (st3.trans st4).trans st5
                obtain ⟨st6, sm6⟩ := rest_sim sm3 no2 w2 st35 sm5 (lens sm5.len)
                have nO6 : ¬ Own σ (rest vs ρ2 ρ5) D := fun z => by
                  rcases st6.new D z with z | z
                  · exact nO2 z
                  · exact (z.lst hd3).elim
                have up : Same F2 F5 := al.same.trans st35.same
                refine ⟨av, hd5, by rw [ra.length]; exact szlt lt2, ?_⟩
                obtain ⟨st7, sm7⟩ := free_upd (ws := av ++ [w]) (st2.trans ((al.stp σ ρ2).trans st6)) sm6 hd5 hD0 nF5 nO6
                exact ⟨F5, _, acc ++ [y], av ++ [w], sa.trans up, st7, sm7, upd_same, nF5, nO6, (ra.up up).append (.cons rw5 .nil), h2⟩
      · rw [if_neg cnd] at h2
        exact h2.elim
    · have e1 : i = ds.length := by omega
      subst e1
      refine .inl ⟨(it _ F2 H2 sa sm2.sub).2 (Nat.le_refl _), ?_⟩
      rw [List.drop_length] at h2
      exact h2 F2 H2 _ st2 sm2 ⟨D, _, rfl, hd2, nF2, .ls ra, nO2, hD0⟩
def canE (M : Mx) (W : WX) (m : DM RV) : TE := fun σ H Q => ∃ F ρ, Sim M F H σ ρ ∧ Post M W σ ρ F H (m ρ) Q
def canT (M : Mx) (W : WX) (m : DM Bool) : TT := fun σ H Q => ∃ F ρ, Sim M F H σ ρ ∧ PostT M W σ ρ F H (m ρ) Q
def canG (M : Mx) (sl : List Nat) (gm : D → SE → R Unit) : TG := fun v σ H Q => ∃ d F ρ, Sim M F H σ ρ ∧ Rep M F v d ∧ ∃ ρ', gm d ρ = .ok () ρ' ∧ ∀ σ', But sl σ σ' → (∀ F0 H0 σ0 ρ0, Stp F0 H0 σ0 ρ0 F H σ ρ → Stp F0 H0 σ0 ρ0 F H σ' ρ') → Sim M F H σ' ρ' → Q σ' H
theorem DE.can (h : DE X M W e m) : PE X e (canE M W m) := by
  obtain ⟨t, p, q⟩ := h
  exact ⟨fun pins s σ H Q I ⟨F, ρ, sm, po⟩ => p.run pins s σ H Q I (q σ H F ρ Q sm po)⟩
theorem DT.can (h : DT X M W e mt) : PT X e (canT M W mt) := by
  obtain ⟨t, p, q⟩ := h
  exact ⟨fun pins s σ H Q I ⟨F, ρ, sm, po⟩ => p.run pins s σ H Q I (q σ H F ρ Q sm po)⟩
theorem DTs.can (h : DTs X M W es mt) : PTs X es (canT M W mt) := by
  obtain ⟨t, p, q⟩ := h
  exact ⟨fun pins s σ H Q I ⟨F, ρ, sm, po⟩ => p.run pins s σ H Q I (q σ H F ρ Q sm po)⟩
theorem DG.can {sl : List Nat} {gm : D → SE → R Unit} (h : DG X M tg sl gm) : PG X tg (canG M sl gm) := by
  obtain ⟨_, t, p, q⟩ := h
  exact ⟨fun pins s σ H v u Q I r ⟨d, F, ρ, sm, rd, z⟩ => p.run pins s σ H v u Q I r (q v d σ H F ρ Q sm rd z)⟩
variable {elt iter : Expr} {ifs : List Expr} {scope : Scope} {own : List (Str × Nat)} {sl : List Nat} {mi : DM (List D)} {gm : D → SE → R Unit} {me : DM RV}
theorem NoEx.of (h : DG X M tg sl gm) : NoEx gm := h.1
theorem de_lc (hi : DI X M W tg iter mi) (own : List (Str × Nat)) (ok : BlkOk X.N X.env.scope scope own) (nx : NoEx gm)
    (hg : ∀ (s : Shared) (H : Hp) (C : Addr) (cl : List (Str × Addr)) (fp : List Addr), DG (X.blk s H scope (compEnvC scope cl C X.env) fp) M tg sl gm) (ht : ∀ (s : Shared) (H : Hp) (C : Addr) (cl : List (Str × Addr)) (fp : List Addr), DTs (X.blk s H scope (compEnvC scope cl C X.env) fp) M W0 ifs mt)
    (he : ∀ (s : Shared) (H : Hp) (C : Addr) (cl : List (Str × Addr)) (fp : List Addr), DE (X.blk s H scope (compEnvC scope cl C X.env) fp) M W0 elt me) (hN : X.N.Nodup) (hc : X.calm = true := by rfl) (hsl : ∀ i ∈ sl, i ∈ own.map (·.2) := by decide) (hs : ∀ x, foldedSetIterable iter X.env x = pure x := by intro _; rfl) :
    DE X M W (.ListComp elt [⟨tg, iter, ifs, 0⟩] scope pos) (dLc (own.map (·.2)) mi gm mt me) := by
  obtain ⟨ti, pi, qi⟩ := hi
  refine ⟨_, pe_lc hc hN pi ok (fun s H C cl fp => (hg s H C cl fp).can) (fun s H C cl fp => (ht s H C cl fp).can) (fun s H C cl fp => (he s H C cl fp).can) hs, ?_⟩
  exact q_lc hsl nx qi (fun v d σ H F ρ Q sm r z => ⟨d, F, ρ, sm, r, z⟩) (fun σ H F ρ Q sm po => ⟨F, ρ, sm, po⟩) (fun σ H F ρ Q sm po => ⟨F, ρ, sm, po⟩)
theorem ds_setLc {i : Nat} {y : Str} {py spos : Pos} (hi : DI X M W tg iter mi) (own : List (Str × Nat)) (ok : BlkOk X.N X.env.scope scope own) (nx : NoEx gm)
    (hg : ∀ (s : Shared) (H : Hp) (C : Addr) (cl : List (Str × Addr)) (fp : List Addr), DG (X.blk s H scope (compEnvC scope cl C X.env) fp) M tg sl gm) (ht : ∀ (s : Shared) (H : Hp) (C : Addr) (cl : List (Str × Addr)) (fp : List Addr), DTs (X.blk s H scope (compEnvC scope cl C X.env) fp) M W0 ifs mt)
    (he : ∀ (s : Shared) (H : Hp) (C : Addr) (cl : List (Str × Addr)) (fp : List Addr), DE (X.blk s H scope (compEnvC scope cl C X.env) fp) M W0 elt me) (hN : X.N.Nodup) (hsw : swapsWith (.ListComp elt [⟨tg, iter, ifs, 0⟩] scope pos) (some (.Name y py)) spos.line X.env = pure true) (hy : X.N[i]? = some y := by rfl) (hyl : X.env.scope.names.lookup y = some .local := by rfl) (hc : X.calm = true := by rfl) (hsl : ∀ i ∈ sl, i ∈ own.map (·.2) := by decide) (hs : ∀ x, foldedSetIterable iter X.env x = pure x := by intro _; rfl) :
    DS X M W (.Assign [.Name y py] (.ListComp elt [⟨tg, iter, ifs, 0⟩] scope pos) spos) (sSet i (dLc (own.map (·.2)) mi gm mt me)) := by
  obtain ⟨ti, pi, qi⟩ := hi
  refine ⟨_, ps_setLc hc hN hy hyl hsw pi ok (fun s H C cl fp => (hg s H C cl fp).can) (fun s H C cl fp => (ht s H C cl fp).can) (fun s H C cl fp => (he s H C cl fp).can) hs, ?_⟩
  exact q_set (q_lc hsl nx qi (fun v d σ H F ρ Q sm r z => ⟨d, F, ρ, sm, r, z⟩) (fun σ H F ρ Q sm po => ⟨F, ρ, sm, po⟩) (fun σ H F ρ Q sm po => ⟨F, ρ, sm, po⟩))
end
end DL

/- part -/
set_option Elab.async false
set_option linter.all false
set_option maxRecDepth 100000
set_option maxHeartbeats 4000000
namespace DL
open PySem PySem.Spec PyProof.Rows L2
structure Cal (P : Program) (w : World) (base : Heap) (M : Mx) (x : Str) (k n : Nat) (m : SE → R RV) where
  f : Addr
  fd : FuncData
  ps : List Str
  g : M.mg x = some (.ref f)
  kp : PySem.W.keepIn M.K (.ref f) = true
  b : Binds M.K fd ps []
  ok : FnOk P w M.K M.mg base (L2.CX P w) k f fd ps (spD M n m)
structure CxD (P : Program) (w : World) (base : Heap) (M : Mx) (N : List Str) (sc : Scope) (j : Nat) (X : Cx) (W : WX) : Prop where
  hP : X.prog = P
  hw : X.w = w
  hB : X.base = base
  hK : M.K = X.K
  hM : M.mg = X.mg
  hN : X.N = N
  hs : X.env.scope = sc
  hf : sc.kind = .function
  nd : N.Nodup
  cm : X.calm = true
  hr : Room j X.A
  tk : Takes X W
structure CxF (P : Program) (w : World) (base : Heap) (M : Mx) (N : List Str) (sc : Scope) (j : Nat) (X : Cx) (W : WX) : Prop extends CxD P w base M N sc j X W where
  fn : ∀ x, X.fn x = true
  ps : PassesOwn (model X.prog X.w) X.A X.env X.xe
structure NameOk (sc : Scope) (x : Str) : Prop where
  vis : Vis sc x
  nd : (x == ("__debug__" : Str)) = false
  nc : (x == ("__classdict__" : Str)) = false
structure GlOk (sc : Scope) (x : Str) : Prop where
  gl : sc.names.lookup x = some .globalImplicit
  nd : (x == ("__debug__" : Str)) = false
  nn : x ≠ "__name__"
structure StOk (X : Cx) (x : Str) : Prop where
  loc : Loc X.env.scope x
  fn : X.fn x = true ∨ X.env.scope.names.lookup x = some .local
theorem hu64 {k : Nat} {A : Around} (hr : Room k A) : A.units + 64 < cLine := hr.units
theorem hu65 {k : Nat} {A : Around} (hr : Room k A) : A.units + 65 < cLine := by
  have := hr.un
  omega
section
variable {P : Program} {w : World} {base : Heap} {N : List Str} {sc : Scope} {j : Nat}
variable {M : Mx} {W : WX} {X : Cx} {F H F' H' F1 H1 F2 H2 H0 : Hp} {σ σ1 : L2.St} {ρ ρ1 ρ2 : SE}
variable {a b c e tg k : Expr} {ma mb mc m mk : DM RV} {mt mu : DM Bool} {es : List Expr} {pos pos' p p' tpos : Pos} {mv mi : DM (List D)} {ms : DM (List AV)} {x : Str} {sl : List Nat} {gm : D → SE → R Unit} {s : DM Fl}
theorem CxD.u64 (C : CxD P w base M N sc j X W) : X.A.units + 64 < cLine := hu64 C.hr
theorem CxD.u65 (C : CxD P w base M N sc j X W) : X.A.units + 65 < cLine := hu65 C.hr
theorem CxD.ix (C : CxD P w base M N sc j X W) {i : Nat} (h : N[i]? = some x) : X.N[i]? = some x := by
  rw [C.hN]
  exact h
theorem CxD.nd' (C : CxD P w base M N sc j X W) : X.N.Nodup := by
  rw [C.hN]
  exact C.nd
theorem CxD.glo (C : CxD P w base M N sc j X W) (h : GlOk sc x) : Gl X x := by
  show X.env.scope.names.lookup x = _
  rw [C.hs]
  exact h.gl
theorem CxF.st (C : CxF P w base M N sc j X W) (h : Loc sc x) : StOk X x := ⟨by rw [C.hs]; exact h, .inl (C.fn x)⟩
theorem CxD.stl (C : CxD P w base M N sc j X W) (h : sc.names.lookup x = some .local) : StOk X x := ⟨by rw [C.hs]; exact .inl h, .inr (by rw [C.hs]; exact h)⟩
theorem CxD.blk (C : CxD P w base M N sc j X W) {csc : Scope} (hk : csc.kind = .function) (s : Shared) (H : Hp) (Ca : Addr) (cl : List (Str × Addr)) (fp : List Addr) : CxD P w base M N (L2.relS csc sc) j (X.blk s H csc (compEnvC csc cl Ca X.env) fp) W0 :=
  ⟨C.hP, C.hw, C.hB, C.hK, C.hM, C.hN, by
    show L2.relS csc X.env.scope = _
    rw [C.hs], hk, C.nd, C.cm, C.hr, L2.takes0⟩
theorem cxF_of {E : XK} {qual : Str} {f : Addr} {cd : Value} {A : Around} {outer : List Env} {s : Shared} {H : Hp} {ps : List Str} (S : FnScope N ps sc) (hr : Room j (A.deeper (envOfC qual sc s.heap.objs.size f cd))) :
    CxF P w base M N sc j (cxOf (L2.CX P w) P w M.K M.mg base N qual sc f cd A outer s H E) (fun cls d _ H' => E cls d H') :=
  ⟨⟨rfl, rfl, rfl, rfl, rfl, rfl, rfl, S.kind, S.nd, rfl, hr, takes_of rfl rfl rfl rfl⟩, fun _ => rfl, passes_of rfl⟩
theorem de_v (C : CxD P w base M N sc j X W) (i : Nat) (h : NameOk sc x) (hi : N[i]? = some x := by rfl) : DE X M W (.Name x p) (dVar i) := de_var i (C.ix hi) (by rw [C.hs]; exact h.vis) h.nd h.nc
theorem da_v (C : CxD P w base M N sc j X W) (i : Nat) (h : NameOk sc x) (hs : DA X M W es ms) (hi : N[i]? = some x := by rfl) (hst : starEach (.Name x p :: es) X.env = (false, eval (.Name x p) X.env) :: starEach es X.env := by rfl) : DA X M W (.Name x p :: es) (aIo i ms) := da_io i hs (C.ix hi) (by rw [C.hs]; exact h.vis) h.nd h.nc hst
theorem dg_v (C : CxD P w base M N sc j X W) (i : Nat) (h : StOk X x) (hi : N[i]? = some x := by rfl) : DG X M (.Name x p) [i] (tgName i) := dg_name i C.nd' (C.ix hi) h.loc h.fn
theorem ds_v (C : CxD P w base M N sc j X W) (i : Nat) (h : StOk X x) (he : DE X M W e m) (hi : N[i]? = some x := by rfl) (hs : swapsWith e (some (.Name x pos')) pos.line X.env = pure false := by rfl) : DS X M W (.Assign [.Name x pos'] e pos) (sSet i m) := ds_set he C.nd' (C.ix hi) h.loc hs h.fn
theorem ds_ixv (C : CxD P w base M N sc j X W) (i : Nat) (h : NameOk sc x) (he : DE X M W e m) (hk : DE X M W k mk) (hi : N[i]? = some x := by rfl)
    (ha : ∀ v, assign (.Subscript (.Name x p') k tpos) X.env v = (do
      let ov ← holding [v] (eval (.Name x p') X.env)
      let iv ← holding [v, ov] (eval k X.env)
      standAt tpos
      holding [v, ov, iv] (setItem ov iv v)
      release [v, ov, iv] []) := by intro _; rfl) (hs : swapsWithSole [.Subscript (.Name x p') k tpos] e pos.line X.env = pure false := by rfl) (hw : swappedStores [.Subscript (.Name x p') k tpos] e X.env = pure none := by rfl)
    (h1 : (assignEach [.Subscript (.Name x p') k tpos] X.env).map (·.2) = [assign (.Subscript (.Name x p') k tpos) X.env] := by rfl) : DS X M W (.Assign [.Subscript (.Name x p') k tpos] e pos) (sSub i mk m) := ds_sub he hk (C.ix hi) (by rw [C.hs]; exact h.vis) h.nd h.nc ha hs hw h1
theorem ds_addv (C : CxD P w base M N sc j X W) (i : Nat) (h : StOk X x) (he : DE X M W e m) (hi : N[i]? = some x := by rfl) : DS X M W (.AugAssign (.Name x pos') .Add e pos) (sAug i addI m) := ds_aug ip_add ip2_add he C.nd' (C.ix hi) h.loc h.fn
theorem swapped2 {env : Env} {x y : Str} {px py pt pt2 : Pos} {kt k2} (hf : env.scope.kind = .function) (hx : env.scope.names.lookup x = some .local) (hy : env.scope.names.lookup y = some .local) (hl : (py.line == px.line) = true) (hne : (y == x) = false)
    (h1 : ∀ v q, a ≠ .Starred v q) (h2 : ∀ v q, b ≠ .Starred v q) (h3 : [a, b].all (foldedForSure 8) = false) (h4 : [a, b].all (constantsAlone 8) = false) :
    swappedStores [.Tuple [.Name x px, .Name y py] kt pt] (.Tuple [a, b] k2 pt2) env = pure (some [x, y]) := by
  have hb : env.blockKind = .function := by
    unfold Env.blockKind
    rw [hf]
    rfl
  have kx : env.kindOf x = some .local := hx
  have ky : env.kindOf y = some .local := hy
  have hl' : py.line = px.line := eq_of_beq hl
  have hne' : ¬ y = x := fun z => by
    rw [z] at hne
    simp at hne
  unfold swappedStores
  simp only [hb, h3, h4]
  rw [if_neg (by simp), if_neg]
  · simp [kx, ky, Expr.pos, hl', List.eraseDups_cons, hne']
  · intro hh
    simp only [List.any_cons, List.any_nil, Bool.or_false, Bool.or_eq_true] at hh
    rcases hh with hh | hh <;> split at hh <;> first
      | exact h1 _ _ rfl
      | exact h2 _ _ rfl
      | cases hh
theorem ds_parv {x y : Str} {px py pt : Pos} {kt k2 pt2} (C : CxD P w base M N sc j X W) (i l : Nat) (hx : sc.names.lookup x = some .local) (hy : sc.names.lookup y = some .local) (hl : (py.line == px.line) = true) (hne : (y == x) = false) (ha : DA X M W [a, b] ms) (hi : N[i]? = some x := by rfl) (hj : N[l]? = some y := by rfl) (hij : i ≠ l := by decide)
    (h1 : ∀ v q, a ≠ .Starred v q := by intro _ _ z; cases z) (h2 : ∀ v q, b ≠ .Starred v q := by intro _ _ z; cases z) (h3 : [a, b].all (foldedForSure 8) = false := by rfl) (h4 : [a, b].all (constantsAlone 8) = false := by rfl)
    (hs : swapsWithSole [.Tuple [.Name x px, .Name y py] kt pt] (.Tuple [a, b] k2 pt2) pos.line X.env = pure false := by rfl) : DS X M W (.Assign [.Tuple [.Name x px, .Name y py] kt pt] (.Tuple [a, b] k2 pt2) pos) (sPar i l ms) :=
  ds_par ha C.cm C.nd' (C.ix hi) (C.ix hj) hij (by rw [C.hs]; exact hx) (by rw [C.hs]; exact hy) (swapped2 (by rw [C.hs]; exact C.hf) (by rw [C.hs]; exact hx) (by rw [C.hs]; exact hy) hl hne h1 h2 h3 h4) hs
theorem de_callC {k n : Nat} {mm : SE → R RV} (C : CxD P w base M N sc j X W) (Ca : Cal P w base M x k n mm) (g : GlOk sc x) (hk : k ≤ j) (ha : DA X M W (a :: es) ms)
    (he : starEach (a :: es) X.env = (false, eval a X.env) :: starEach es X.env := by rfl) (hpl : (backTo pos (starEach es X.env)).any (·.1) = false := by rfl) :
    DE X M W (.Call (.Name x p) (a :: es) [] pos) (dCall n [] mm ms) := by
  obtain ⟨f, fd, ps, g', kp, b, ok⟩ := Ca
  have hP := C.hP
  have hw := C.hw
  have hB := C.hB
  subst hP hw hB
  rw [C.hK, C.hM] at ok
  rw [C.hK] at kp b
  rw [C.hM] at g'
  exact de_call ok (C.hr.mono hk) g' kp b C.tk ha (C.glo g) g.nd he hpl
theorem de_lm {mname : Str} {r : V → List V → Hp → VK → Prop} {g : List D → List D → Option (D × List D)} (C : CxD P w base M N sc j X W) (i : Nat) (h : NameOk sc x) (o : LmOk M r g) (he : ∀ (to : TE) (t : TA), PE X (.Name x p') to → PA X (a :: es) t → PE X (.Call (.Attribute (.Name x p') mname p) (a :: es) [] pos) (tBM X.K "list" r to t)) (ha : DA X M W (a :: es) ms) (hi : N[i]? = some x := by rfl) :
    DE X M W (.Call (.Attribute (.Name x p') mname p) (a :: es) [] pos) (lmD i g ms) := by
  obtain ⟨t, pa, qa⟩ := ha
  exact ⟨_, he _ _ (pe_var (C.ix hi) (by rw [C.hs]; exact h.vis) h.nd h.nc) pa, C.hK ▸ q_lm qa o⟩
theorem de_cbF {id : String} {r : List V → Hp → VK → Prop} {g : List D → Option RV} (C : CxD P w base M N sc j X W) (hc : CallR X (.builtin id) r) (o : CbOk M r g) (hv : bootBuiltins x = some (.builtin id)) (h : GlOk sc x) (hm : M.mg x = none) (ha : DV X M W (a :: es) mv)
    (he : starEach (a :: es) X.env = (false, eval a X.env) :: starEach es X.env := by rfl) (hpl : (backTo pos (starEach es X.env)).any (·.1) = false := by rfl) : DE X M W (.Call (.Name x p) (a :: es) [] pos) (dCb g mv) := de_cb hc o hv ha (by rw [← C.hM]; exact hm) (C.glo h) h.nn h.nd he hpl
theorem de_ctyF {T : String} {r : List V → Hp → VK → Prop} {g : List D → Option RV} (C : CxD P w base M N sc j X W) (hc : CallR X (.type T) r) (o : CbOk M r g) (hv : bootBuiltins x = some (.type T)) (h : GlOk sc x) (hm : M.mg x = none) (ha : DV X M W (a :: es) mv)
    (he : starEach (a :: es) X.env = (false, eval a X.env) :: starEach es X.env := by rfl) (hpl : (backTo pos (starEach es X.env)).any (·.1) = false := by rfl) : DE X M W (.Call (.Name x p) (a :: es) [] pos) (dCb g mv) := de_cty hc o hv ha (by rw [← C.hM]; exact hm) (C.glo h) h.nn h.nd he hpl
theorem de_lenF (C : CxD P w base M N sc j X W) (h : GlOk sc "len") (hm : M.mg "len" = none) (ha : DV X M W [a] mv) (he : starEach [a] X.env = (false, eval a X.env) :: starEach [] X.env := by rfl) : DE X M W (.Call (.Name "len" p) [a] [] pos) (dCb gLen mv) := de_cbF C call_len (C.hK ▸ cb_len) PySem.boot_len h hm ha he
theorem de_absF (C : CxD P w base M N sc j X W) (h : GlOk sc "abs") (hm : M.mg "abs" = none) (ha : DV X M W [a] mv) (he : starEach [a] X.env = (false, eval a X.env) :: starEach [] X.env := by rfl) : DE X M W (.Call (.Name "abs" p) [a] [] pos) (dCb gAbs mv) := de_cbF C call_abs cb_abs (by decide +kernel) h hm ha he
theorem de_listF (C : CxD P w base M N sc j X W) (h : GlOk sc "list") (hm : M.mg "list" = none) (ha : DV X M W [a] mv) (he : starEach [a] X.env = (false, eval a X.env) :: starEach [] X.env := by rfl) : DE X M W (.Call (.Name "list" p) [a] [] pos) (dCb gList mv) := de_ctyF C call_list_of (C.hK ▸ cb_list) (by decide +kernel) h hm ha he
theorem de_allF (C : CxD P w base M N sc j X W) (h : GlOk sc "all") (hm : M.mg "all" = none) (ha : DV X M W [a] mv) (he : starEach [a] X.env = (false, eval a X.env) :: starEach [] X.env := by rfl) : DE X M W (.Call (.Name "all" p) [a] [] pos) (dCb gAll mv) := de_cbF C (cr_all C.cm) (C.hK ▸ cb_all) (by decide +kernel) h hm ha he
theorem de_strF (C : CxD P w base M N sc j X W) (h : GlOk sc "str") (hm : M.mg "str" = none) (ha : DV X M W [a] mv) (he : starEach [a] X.env = (false, eval a X.env) :: starEach [] X.env := by rfl) : DE X M W (.Call (.Name "str" p) [a] [] pos) (dCb gStr mv) := de_ctyF C call_str_int cb_str (by decide +kernel) h hm ha he
theorem de_intF (C : CxD P w base M N sc j X W) (h : GlOk sc "int") (hm : M.mg "int" = none) (ha : DV X M W [a] mv) (he : starEach [a] X.env = (false, eval a X.env) :: starEach [] X.env := by rfl) : DE X M W (.Call (.Name "int" p) [a] [] pos) (dCb gInt mv) := de_ctyF C call_int_str cb_int (by decide +kernel) h hm ha he
theorem di_range1F (C : CxD P w base M N sc j X W) (h : GlOk sc "range") (hm : M.mg "range" = none) (ha : DV X M W [a] mv) (hs : starEach [a] X.env = [(false, eval a X.env)] := by rfl) : DI X M W tg (.Call (.Name "range" p) [a] [] pos) (iRange1 mv) := di_range1 ha (by rw [← C.hM]; exact hm) (C.glo h) hs
theorem de_lcF {elt iter : Expr} {ifs : List Expr} {csc : Scope} {me : DM RV} (C : CxD P w base M N sc j X W) (own : List (Str × Nat)) (ok : BlkOk N sc csc own) (nx : NoEx gm) (hi : DI X M W tg iter mi)
    (hg : ∀ (s : Shared) (H : Hp) (Ca : Addr) (cl : List (Str × Addr)) (fp : List Addr), DG (X.blk s H csc (compEnvC csc cl Ca X.env) fp) M tg sl gm) (ht : ∀ (s : Shared) (H : Hp) (Ca : Addr) (cl : List (Str × Addr)) (fp : List Addr), DTs (X.blk s H csc (compEnvC csc cl Ca X.env) fp) M W0 ifs mt)
    (he : ∀ (s : Shared) (H : Hp) (Ca : Addr) (cl : List (Str × Addr)) (fp : List Addr), DE (X.blk s H csc (compEnvC csc cl Ca X.env) fp) M W0 elt me) (hsl : ∀ i ∈ sl, i ∈ own.map (·.2) := by decide) (hs : ∀ x, foldedSetIterable iter X.env x = pure x := by intro _; rfl) :
    DE X M W (.ListComp elt [⟨tg, iter, ifs, 0⟩] csc pos) (dLc (own.map (·.2)) mi gm mt me) := de_lc hi own (by rw [C.hN, C.hs]; exact ok) nx hg ht he C.nd' C.cm hsl hs
theorem ds_setLcF {y : Str} {elt iter : Expr} {ifs : List Expr} {csc : Scope} {me : DM RV} {py spos : Pos} (C : CxD P w base M N sc j X W) (i : Nat) (hyl : sc.names.lookup y = some .local) (hl : (py.line == pos.line) = true) (hcl : (csc.names.any fun (n, k) => n == y && (k == .local || k == .cell)) = false) (own : List (Str × Nat)) (ok : BlkOk N sc csc own) (nx : NoEx gm) (hi : DI X M W tg iter mi)
    (hg : ∀ (s : Shared) (H : Hp) (Ca : Addr) (cl : List (Str × Addr)) (fp : List Addr), DG (X.blk s H csc (compEnvC csc cl Ca X.env) fp) M tg sl gm) (ht : ∀ (s : Shared) (H : Hp) (Ca : Addr) (cl : List (Str × Addr)) (fp : List Addr), DTs (X.blk s H csc (compEnvC csc cl Ca X.env) fp) M W0 ifs mt)
    (he : ∀ (s : Shared) (H : Hp) (Ca : Addr) (cl : List (Str × Addr)) (fp : List Addr), DE (X.blk s H csc (compEnvC csc cl Ca X.env) fp) M W0 elt me) (hy : N[i]? = some y := by rfl) (hsl : ∀ i ∈ sl, i ∈ own.map (·.2) := by decide) (hs : ∀ x, foldedSetIterable iter X.env x = pure x := by intro _; rfl) :
    DS X M W (.Assign [.Name y py] (.ListComp elt [⟨tg, iter, ifs, 0⟩] csc pos) spos) (sSet i (dLc (own.map (·.2)) mi gm mt me)) :=
  ds_setLc hi own (by rw [C.hN, C.hs]; exact ok) nx hg ht he C.nd' (sw_true (by rw [C.hs]; exact C.hf) (by rw [C.hs]; exact hyl) hl hcl) (C.ix hy) (by rw [C.hs]; exact hyl) C.cm hsl hs
end
end DL

/- part -/
set_option Elab.async false
set_option linter.all false
set_option maxRecDepth 100000
set_option maxHeartbeats 1000000
namespace DL
open PySem PySem.Spec PyProof.Rows L2
def tyO : D → Option String
  | .non => some "NoneType" | .bl _ => some "bool" | .int _ => some "int" | .str _ => some "str" | .tup _ => some "tuple" | .lst _ => some "list" | .scr _ => some "list" | _ => none
def isT (a b : String) : Bool := a == b || (a == "bool" && b == "int")
def isiD (T : String) (d : D) : Option RV := (tyO d).map fun t => .im (.bl (isT t T))
def isiD2 (T U : String) (d : D) : Option RV := (tyO d).map fun t => .im (.bl (isT t T || isT t U))
def tyNs : List String := ["NoneType", "bool", "int", "str", "tuple", "list"]
def KitT (T : String) : Prop := ∀ a ∈ tyNs, kitB a T = some (isT a T)
theorem kit_list : KitT "list" := by unfold KitT; decide +kernel
theorem kit_tuple : KitT "tuple" := by unfold KitT; decide +kernel
theorem kit_int : KitT "int" := by unfold KitT; decide +kernel
theorem kit_bool : KitT "bool" := by unfold KitT; decide +kernel
theorem kit_str : KitT "str" := by unfold KitT; decide +kernel
theorem tyO_mem {d : D} {t : String} (h : tyO d = some t) : t ∈ tyNs := by
  cases d <;> cases h <;> simp [tyNs]
section
variable {M : Mx} {F H F' H' F1 H1 F2 H2 H0 : Hp}
theorem tyx_of {v : V} {d : D} {t : String} (sub : SubF F H) (h : Vw M F H v d) (e : tyO d = some t) : TyX M.K H v (.type t) := by
  cases d with
  | non =>
    cases e
    rw [vw_non h]
    exact .base .non
  | bl b =>
    cases e
    rw [vw_bl h]
    exact .base (.bl _)
  | int i =>
    cases e
    rw [vw_int h]
    exact .base (.int _)
  | str x =>
    cases e
    rw [vw_str h]
    exact .base (.str _)
  | tup ds =>
    cases e
    obtain ⟨a, vs, e1, h1, _⟩ := vw_tup h
    subst e1
    rcases h1 with (h1 | ⟨o, h1⟩) | ⟨o, its, n, h1, h2, _⟩
    · exact .base (.tup (sub.go _ _ h1))
    · exact .fTuple (sub.go _ _ h1)
    · exact .kTuple h1 h2
  | lst ds =>
    cases e
    obtain ⟨a, vs, e1, h1, _⟩ := h
    subst e1
    exact .base (.lst h1)
  | scr ns =>
    cases e
    cases h with
    | scr h1 =>
      rcases h1 with (h1 | ⟨o, h1⟩) | ⟨o, its, n, h1, h2, _⟩
      · exact .base (.lst (sub.go _ _ h1))
      · exact .base (.frz (sub.go _ _ h1))
      · exact .kList h1 h2
  | obj c fs => cases e
  | fn x => cases e
  | exc c fs => cases e
  | xt k ks vs => cases e
  | tl n ds => cases e
theorem tyx_same {v : V} {t : Value} {K : PySem.W.Frag} (sub : Same H H') (h : TyX K H v t) : TyX K H' v t := by
  cases h with
  | base b =>
    refine .base ?_
    cases b with
    | non => exact .non
    | bl x => exact .bl x
    | int i => exact .int i
    | str x => exact .str x
    | flt x => exact .flt x
    | lst e => exact .lst (sub _ _ e)
    | frz e => exact .frz (sub _ _ e)
    | tup e => exact .tup (sub _ _ e)
    | dK e => exact .dK (sub _ _ e)
    | dT e => exact .dT (sub _ _ e)
    | ins e cl ha hn htk hm => exact .ins (sub _ _ e) cl ha hn htk hm
  | byt b => exact .byt b
  | set e => exact .set (sub _ _ e)
  | kList e c => exact .kList e c
  | kTuple e c => exact .kTuple e c
  | kDict e c => exact .kDict e c
  | fTuple e => exact .fTuple (sub _ _ e)
  | fDict e => exact .fDict (sub _ _ e)
end
section
variable {P : Program} {w : World} {base : Heap} {N : List Str} {sc : Scope} {j : Nat}
variable {M : Mx} {W : WX} {X : Cx} {F H F' H' F1 H1 F2 H2 H0 : Hp} {σ σ1 : L2.St} {ρ ρ1 ρ2 : SE}
variable {a b c e tg k : Expr} {ma mb mc m mk : DM RV} {es : List Expr} {pos pos' p p' p2 p3 tpos : Pos} {ms : DM (List AV)} {x y z : Str} {kt : Nat}
theorem de_isiF (C : CxD P w base M N sc j X W) {T : String} (h : GlOk sc "isinstance") (hm : M.mg "isinstance" = none) (h2 : GlOk sc x) (hm2 : M.mg x = none) (hv : bootBuiltins x = some (.type T)) (hk : KitT T) (ha : DE X M W a ma)
    (hs : starEach (a :: [.Name x p']) X.env = (false, eval a X.env) :: starEach [.Name x p'] X.env := by rfl) (hpl : (backTo pos (starEach [.Name x p'] X.env)).any (·.1) = false := by rfl) :
    DE X M W (.Call (.Name "isinstance" p) [a, .Name x p'] [] pos) (dOp1 (isiD T) ma) := by
  obtain ⟨ta, pa, qa⟩ := ha
  have hm' : X.mg "isinstance" = none := by rw [← C.hM]; exact hm
  have hm2' : X.mg x = none := by rw [← C.hM]; exact hm2
  refine ⟨_, pe_callB call_isi (C.glo h) hm' PyProof.Rows.boot_isinstance (pa_cons pa (pa_cons (pe_bltn (v := .ty T) (C.glo h2) hm2' hv rfl h2.nn h2.nd) pa_nil rfl) hs) h.nn h.nd hs hpl, fun σ H F ρ Q sm h => ?_⟩
  refine qa σ H F ρ _ sm (Post.go h fun v ρ1 F1 H1 u _ st1 sm1 ok1 h1 => ?_)
  obtain ⟨rv, e, k⟩ := Post.fin' h1 st1 sm1
  obtain ⟨d, l1, hg⟩ := bind_some1 e
  have vw := ok1.view0 sm1 l1
  unfold isiD at hg
  cases et : tyO d with
  | none =>
    rw [et] at hg
    cases hg
  | some t =>
    rw [et] at hg
    cases hg
    have ty := tyx_of sm1.sub vw et
    rw [C.hK] at ty
    exact ⟨_, _, _, _, _, rfl, .ty T, ty, kit_ty (hk t (tyO_mem et)), k _ _ _ (Alc.refl sm1.sub) RvNew.bl⟩
theorem de_isi2F (C : CxD P w base M N sc j X W) {T U : String} (h : GlOk sc "isinstance") (hm : M.mg "isinstance" = none) (h2 : GlOk sc x) (hm2 : M.mg x = none) (hv : bootBuiltins x = some (.type T)) (hk : KitT T) (h3 : GlOk sc y) (hm3 : M.mg y = none) (hv3 : bootBuiltins y = some (.type U)) (hk3 : KitT U) (ha : DE X M W a ma)
    (hs : starEach (a :: [.Tuple [.Name x p', .Name y p2] kt p3]) X.env = (false, eval a X.env) :: starEach [.Tuple [.Name x p', .Name y p2] kt p3] X.env := by rfl) (hpl : (backTo pos (starEach [.Tuple [.Name x p', .Name y p2] kt p3] X.env)).any (·.1) = false := by rfl) :
    DE X M W (.Call (.Name "isinstance" p) [a, .Tuple [.Name x p', .Name y p2] kt p3] [] pos) (dOp1 (isiD2 T U) ma) := by
  obtain ⟨ta, pa, qa⟩ := ha
  have hm' : X.mg "isinstance" = none := by rw [← C.hM]; exact hm
  have hm2' : X.mg x = none := by rw [← C.hM]; exact hm2
  have hm3' : X.mg y = none := by rw [← C.hM]; exact hm3
  refine ⟨_, pe_callB call_isiT (C.glo h) hm' PyProof.Rows.boot_isinstance (pa_cons pa (pa_cons (pe_tup (pa_cons (pe_bltn (v := .ty T) (C.glo h2) hm2' hv rfl h2.nn h2.nd) (pa_cons (pe_bltn (v := .ty U) (C.glo h3) hm3' hv3 rfl h3.nn h3.nd) pa_nil rfl) rfl)) pa_nil rfl) hs) h.nn h.nd hs hpl, fun σ H F ρ Q sm h => ?_⟩
  refine qa σ H F ρ _ sm (Post.go h fun v ρ1 F1 H1 u _ st1 sm1 ok1 h1 => ?_)
  obtain ⟨rv, e, k⟩ := Post.fin' h1 st1 sm1
  obtain ⟨d, l1, hg⟩ := bind_some1 e
  have vw := ok1.view0 sm1 l1
  unfold isiD2 at hg
  cases et : tyO d with
  | none =>
    rw [et] at hg
    cases hg
  | some t =>
    rw [et] at hg
    cases hg
    have ty := tyx_of sm1.sub vw et
    rw [C.hK] at ty
    refine ⟨by show 2 ≤ sizeLine; decide, fun q hq => ?_⟩
    refine ⟨_, q, _, _, _, _, rfl, upd_same, .cons (.ty T) (.cons (.ty U) .nil), tyx_same (same_upd hq) ty, ?_, k F1 _ _ (Alc.new sm1.sub hq) RvNew.bl⟩
    refine kitAny_cons (kit_ty (hk t (tyO_mem et))) (fun e1 => ?_) (fun e1 => ?_)
    · refine kitAny_cons (kit_ty (hk3 t (tyO_mem et))) (fun e2 => ?_) (fun e2 => ?_)
      · rw [e1, e2]
        exact kitAny_nil
      · rw [e2, Bool.or_true]
    · rw [e1, Bool.true_or]
def strsO : List D → Option (List Str)
  | [] => some []
  | .str x :: r => (strsO r).map (x :: ·)
  | _ => none
def joinD : D → D → Option RV
  | .str a, .lst ds => (strsO ds).bind fun ys => if (ys.map (·.length)).sum + ys.length * a.length ≤ 16777216 then some (.im (.str (Txt.join a ys))) else none
  | _, _ => none
theorem strs_of : ∀ {ds : List D} {ys : List Str} {vs : List V}, strsO ds = some ys → Reps M F vs ds → vs = ys.map V.str
  | [], _, _, h, r => by
    cases h
    cases r
    rfl
  | d :: ds, ys, _, h, r => by
    cases r with
    | cons r1 r2 =>
      cases d with
      | str x =>
        have h : (strsO ds).map (x :: ·) = some ys := h
        cases e : strsO ds with
        | none =>
          rw [e] at h
          cases h
        | some zs =>
          rw [e] at h
          cases h
          cases r1
          rw [strs_of e r2]
          rfl
      | _ => cases h
def dStrJoin (ma mb : DM RV) : DM RV := fun ρ => (ma ρ).bind fun x ρ1 => match x with
  | .im (.str a) => (mb ρ1).bind fun y ρ2 => ofO ((look ρ2 y).bind (joinD (.str a))) ρ2
  | _ => .bad
theorem de_joinF (C : CxD P w base M N sc j X W) {a e : Expr} {p pos : Pos} (ha : DE X M W a ma) (hb : DE X M W e mb) (hs : starEach [e] X.env = [(false, eval e X.env)] := by rfl) (hbase : attributeBase a "join" X.env (eval a X.env) = eval a X.env := by rfl) (hline : (p.endLine == pos.line) = true := by rfl) :
    DE X M W (.Call (.Attribute a "join" p) [e] [] pos) (dStrJoin ma mb) := by
  obtain ⟨ta, pa, qa⟩ := ha
  obtain ⟨tb, pb, qb⟩ := hb
  refine ⟨_, pe_join pa pb hs hbase hline, fun σ H F ρ Q sm h => ?_⟩
  refine qa σ H F ρ _ sm (Post.go h fun x ρ1 F1 H1 v _ st1 sm1 ok1 h1 => ?_)
  split at h1
  · rename_i s _
    have ev : v = .str s := vw_str (ok1.view0 sm1 (d := .str s) rfl)
    refine ⟨⟨s, ev⟩, ?_⟩
    refine qb σ H1 F1 ρ1 _ sm1 (Post.go (Post.from st1 h1) fun y ρ2 F2 H2 u _ st2 sm2 ok2 h2 => ?_)
    obtain ⟨rv, e, k⟩ := Post.fin' h2 st2 sm2
    obtain ⟨d, l2, hg⟩ := bind_some1 e
    have v2 := ok2.view0 sm2 l2
    unfold joinD at hg
    split at hg
    · rename_i s' ds e0
      cases e0
      cases es : strsO ds with
      | none =>
        rw [es] at hg
        cases hg
      | some ys =>
        rw [es] at hg
        obtain ⟨hz, e3⟩ := some_ite (show (if (ys.map (·.length)).sum + ys.length * s.length ≤ 16777216 then some (RV.im (.str (Txt.join s ys))) else none) = some rv from hg)
        subst e3
        obtain ⟨q, vs, e4, h4, r4⟩ := v2
        subst e4
        rw [strs_of es r4] at h4
        exact ⟨s, q, ys, ev, rfl, .inl (.inl (.inl h4)), hz, k _ _ _ (Alc.refl sm2.sub) RvNew.str⟩
    · cases hg
  · exact h1.elim
def KCon (M : Mx) (x : Str) (d : D) : Prop := ∃ u v, M.mg x = some u ∧ RelV v u ∧ ∀ F, Rep M F v d
theorem KCon.int {i : Int} {t} (h : M.mg x = some (.int i t)) : KCon M x (.int i) := ⟨_, .int i, h, ⟨t, rfl⟩, fun _ => .int i⟩
theorem KCon.str {i : Str} {t} (h : M.mg x = some (.str i t)) : KCon M x (.str i) := ⟨_, .str i, h, ⟨t, rfl⟩, fun _ => .str i⟩
theorem de_k {d : D} (C : CxD P w base M N sc j X W) (h : GlOk sc x) (c : KCon M x d) : DE X M W (.Name x p) (dC d) := by
  obtain ⟨u, v, h1, h2, h3⟩ := c
  exact de_glob (C.glo h) (by rw [← C.hM]; exact h1) h2 h3 h.nd
structure DctK (M : Mx) (w : World) (x : Str) (ks : List Str) : Prop where
  ex : ∃ d es n, M.mg x = some (.ref d) ∧ KDict M.K w d es n ∧ ∀ z, ∃ r, PySem.W.nsIn M.K d z = some r ∧ r.isSome = ks.contains z
def keyS (e : DictEntry) : Option Str := match e.key with
  | .str x _ => some x
  | _ => none
theorem find_keys : ∀ {l : List DictEntry} {ks : List Str}, l.map keyS = ks.map some → ∀ z : Str, (l.any (·.refKey) = false) ∧ ((l.find? fun e => e.key.isStr z).isSome = ks.contains z)
  | [], [], _, z => ⟨rfl, rfl⟩
  | e :: r, k :: ks, h, z => by
    have h1 : keyS e :: r.map keyS = some k :: ks.map some := h
    injection h1 with h2 h3
    obtain ⟨i1, i2⟩ := find_keys h3 z
    obtain ⟨eh, ek, ev⟩ := e
    unfold keyS at h2
    split at h2
    · rename_i x t q
      have q : ek = .str x t := q
      subst q
      cases Option.some.inj h2
      refine ⟨?_, ?_⟩
      · rw [List.any_cons, i1]
        rfl
      · rw [List.find?_cons, List.contains_cons]
        show (match (k == z) with
          | true => some _
          | false => _).isSome = _
        rw [show (z == k) = (k == z) from Bool.beq_comm]
        cases k == z with
        | true => rfl
        | false =>
          rw [Bool.false_or]
          exact i2
    · cases h2
theorem dctK_of {M : Mx} {w : World} {x : Str} {ks : List Str} {d : Addr} {es : Array DictEntry} {n : Nat} (g : M.mg x = some (.ref d)) (l : M.K.lookup d = some ⟨.type "dict", none, .dict es n, #[]⟩) (k : PySem.W.KeysLit w.params es.toList) (s : (d == sysModules) = false) (t : es.toList.map keyS = ks.map some) : DctK M w x ks := by
  refine ⟨d, es, n, g, ⟨l, k, s⟩, fun z => ?_⟩
  obtain ⟨h1, h2⟩ := find_keys t z
  unfold PySem.W.nsIn
  rw [l]
  show ∃ r, (match es.toList.find? (·.key.isStr z) with
      | some e => some (some e.val)
      | none => if es.toList.any (·.refKey) then none else some none) = some r ∧ _
  cases e : es.toList.find? (·.key.isStr z) with
  | some en =>
    rw [e] at h2
    exact ⟨_, rfl, h2⟩
  | none =>
    rw [e] at h2
    refine ⟨none, ?_, h2⟩
    show (if es.toList.any (·.refKey) = true then none else some none) = _
    rw [if_neg (by rw [h1]; exact Bool.false_ne_true)]
def inKD (neg : Bool) (ks : List Str) : D → Option RV
  | .str z => some (.im (.bl (neg != ks.contains z)))
  | _ => none
theorem de_notInK {ks : List Str} (C : CxD P w base M N sc j X W) (h : GlOk sc x) (c : DctK M w x ks) (ha : DE X M W a ma) (hm : behindInMarks .NotIn (.Name x p) = false := by rfl) : DE X M W (.Compare a [.NotIn] [.Name x p] pos) (dOp1 (inKD true ks) ma) := by
  obtain ⟨ta, pa, qa⟩ := ha
  obtain ⟨cd, ces, cn, cg, ckd, ckk⟩ := c.ex
  have g : X.mg x = some (.ref cd) := by rw [← C.hM]; exact cg
  have kd : KDict X.K X.w cd ces cn := by
    rw [← C.hK, C.hw]
    exact ckd
  refine ⟨_, pe_cmpR (op_notIn_kd kd) pa (pe_glob (v := .ref cd) (C.glo h) g rfl h.nd) hm, fun σ H F ρ Q sm h => ?_⟩
  refine qa σ H F ρ _ sm (Post.go h fun v ρ1 F1 H1 u _ st1 sm1 ok1 h1 => ?_)
  obtain ⟨rv, e, k⟩ := Post.fin' h1 st1 sm1
  obtain ⟨d, l1, hg⟩ := bind_some1 e
  have vw := ok1.view0 sm1 l1
  unfold inKD at hg
  split at hg
  · rename_i s
    cases hg
    obtain ⟨r, e1, e2⟩ := ckk s
    rw [vw_str vw]
    refine ⟨s, r, rfl, rfl, by rw [← C.hK]; exact e1, k _ _ _ (Alc.refl sm1.sub) ?_⟩
    rw [← e2, Bool.true_bne]
    exact RvNew.bl
  · cases hg
structure DefAt (M : Mx) (x : Str) (st : Stmt) (ps : List Str) where
  f : Addr
  fd : FuncData
  g : M.mg x = some (.ref f)
  kp : PySem.W.keepIn M.K (.ref f) = true
  b : Binds M.K fd ps []
  fu : Fun M.K x x st f fd
def DefAt.cal {st : Stmt} {ps : List Str} {n : Nat} {mm : SE → R RV} (d : DefAt M x st ps) (ok : FnOk P w M.K M.mg base (L2.CX P w) j d.f d.fd ps (spD M n mm)) : Cal P w base M x j n mm := ⟨d.f, d.fd, ps, d.g, d.kp, d.b, ok⟩
theorem de_callC0 {k n : Nat} {mm : SE → R RV} (C : CxD P w base M N sc j X W) (Ca : Cal P w base M x k n mm) (g : GlOk sc x) (hk : k ≤ j) : DE X M W (.Call (.Name x p) [] [] pos) (dCall n [] mm aNil) := by
  obtain ⟨f, fd, ps, g', kp, b, ok⟩ := Ca
  have hP := C.hP
  have hw := C.hw
  have hB := C.hB
  subst hP hw hB
  rw [C.hK, C.hM] at ok
  rw [C.hK] at kp b
  rw [C.hM] at g'
  refine ⟨tCallSD (spD M n mm) [] (fun σ cls d H' => W cls d σ H') tNil, ⟨fun pins s σ H Q I h => ?_⟩, q_call (dds := []) (fun σ H F ρ Q sm h => h F H [] (Stp.refl _ _ _ _) sm .nil) fun _ => .nil⟩
  refine wpAny_Call_Name_kw (ld_glob I (C.glo g) g' ?_ g.nd)
  exact PySem.W.callWith_K0 I.kIn kp (run_fnSD (us := []) ok (C.hr.mono hk) b .nil (passAt C.tk σ) I .nil h)
def mBad : SE → R RV := fun _ => .bad
theorem fn_bad {f : Addr} {fd : FuncData} {ps : List Str} {n : Nat} : FnOk P w M.K M.mg base (L2.CX P w) j f fd ps (spD M n mBad) := by
  have no : ∀ vs H Q E, ¬ spD M n mBad vs H Q E := by
    intro vs H Q E h
    obtain ⟨F, svs, _, _, _, hp⟩ := h
    exact hp
  exact ⟨fun vs H Q E h => (no _ _ _ _ h).elim, fun A outer s H args us vs Q E hr he hb hv h => (no _ _ _ _ h).elim⟩
end
end DL

/- part -/
set_option Elab.async false
set_option linter.all false
set_option maxRecDepth 100000
set_option maxHeartbeats 1000000
namespace DL
open PySem PySem.Spec PyProof.Rows L2
def lone (H : Hp) (a : Addr) : Hp := fun b => if b = a then (match H b with
  | some (.lst vs) => some (.lst vs)
  | some (.frz o (.lst vs)) => some (.frz o (.lst vs))
  | _ => none) else none
theorem lone_at {H : Hp} {a b : Addr} {o : HO} (e : lone H a b = some o) : H b = some o ∧ ((∃ vs, o = .lst vs) ∨ ∃ q vs, o = .frz q (.lst vs)) := by
  unfold lone at e
  split at e
  · split at e
    · rename_i h
      cases e
      exact ⟨h, .inl ⟨_, rfl⟩⟩
    · rename_i h
      cases e
      exact ⟨h, .inr ⟨_, _, rfl⟩⟩
    · cases e
  · cases e
theorem lone_sub (H : Hp) (a : Addr) : SubF (lone H a) H := ⟨fun b o e _ => (lone_at e).1, fun b n vs e => by
  rcases (lone_at e).2 with ⟨ws, z⟩ | ⟨q, ws, z⟩ <;> cases z⟩
theorem lone_ntb (H : Hp) (a : Addr) : NoTb (lone H a) := fun b ps e => by
  rcases (lone_at e).2 with ⟨ws, z⟩ | ⟨q, ws, z⟩ <;> cases z
theorem lone_sqL {K : PySem.W.Frag} {H : Hp} {a : Addr} {xs : List V} (h : SqL K H a xs) : SqL K (lone H a) a xs := by
  rcases h with (h | ⟨o, h⟩) | h
  · refine .inl (.inl ?_)
    unfold lone
    rw [if_pos rfl, h]
  · refine .inl (.inr ⟨o, ?_⟩)
    unfold lone
    rw [if_pos rfl, h]
  · exact .inr h
def spLaw (K : PySem.W.Frag) : Sp := fun vs H Q _ => ∃ (a : Addr) (ns : List Int), vs = [.ref a] ∧ SqL K H a (ns.map V.int) ∧ ns.length ≤ 63 ∧ ∀ H', Q (.bl true) H'
def LawGood (m : SE → R RV) : Prop := ∀ ns : List Int, ns.length ≤ 63 → ∃ ρ', m [.im (.scr ns)] = .ok (.im (.bl true)) ρ'
def spLawC (K : PySem.W.Frag) (T : List (Addr × Str)) : Sp := fun vs H Q E => spLaw K vs H Q E ∧ ∀ p ∈ T, H p.1 = some (.tbl #[])
theorem end_sp {M : Mx} {m : SE → R RV} (hm : LawGood m) : ∀ vs H Q E, spLawC M.K M.T vs H Q E → spD M 1 m vs H Q E := by
  intro vs H Q E ⟨h, hT⟩
  obtain ⟨a, ns, rfl, hS, hl, k⟩ := h
  obtain ⟨ρ', e⟩ := hm ns hl
  refine ⟨lone H a, [.im (.scr ns)], rfl, fun i sv h => ?_, ⟨⟨lone_sub H a, lone_ntb H a⟩, fun p hp => .nil (hT p hp), rfl, fun i d h => ?_, fun i io ds h => ?_, fun i j b h => ?_⟩, ?_⟩
  · match i, h with
    | 0, h =>
      cases h
      exact .inl ⟨_, rfl⟩
  · match i, h with
    | 0, h =>
      cases h
      exact ⟨_, rfl, .scr (lone_sqL hS)⟩
  · match i, h with
    | 0, h => cases h
  · obtain ⟨io, ds, h⟩ := h
    match i, h with
    | 0, h => cases h
  · rw [e]
    intro F' H' v st sm ok
    have ok : Rep M F' v (.bl true) := ok
    cases ok
    exact k H'
theorem fn_law {P : Program} {w : World} {base : Heap} {M : Mx} {k : Nat} {f : Addr} {fd : FuncData} {x : Str} {m : SE → R RV} (hm : LawGood m) (F : FnOk P w M.K M.mg base (L2.CX P w) k f fd [x] (spD M 1 m)) : FnOk P w M.K M.mg base (L2.CX P w) k f fd [x] (spLawC M.K M.T) := F.imp (end_sp hm)
end DL

/- part -/
set_option Elab.async false
set_option linter.all false
set_option maxRecDepth 100000
set_option maxHeartbeats 1000000
namespace DL
open PySem PySem.Spec PyProof.Rows L2
section
variable {α β : Type} {a : α} {ρ ρ1 ρ2 : SE}
@[simp] theorem bind_okA {f : α → SE → R β} : (R.ok a ρ).bind f = f a ρ := rfl
@[simp] theorem bind_badA {f : α → SE → R β} : (R.bad : R α).bind f = .bad := rfl
@[simp] theorem bind_exA {f : α → SE → R β} {e : Exc} : (R.ex e ρ : R α).bind f = .ex e ρ := rfl
@[simp] theorem ofO_someA : ofO (some a) ρ = .ok a ρ := rfl
@[simp] theorem look_imA {d : D} : look ρ (.im d) = some (unl d) := rfl
@[simp] theorem look_owA {oc : OC} : look ρ (.ow oc) = some oc.D := rfl
@[simp] theorem oc_lsA {ds : List D} : (OC.ls ds).D = .lst ds := rfl
@[simp] theorem oc_obA {c : Str} {fs : List (Str × D)} : (OC.ob c fs).D = .obj c fs := rfl
@[simp] theorem unl_nonA : unl .non = .non := rfl
@[simp] theorem unl_blA {b : Bool} : unl (.bl b) = .bl b := rfl
@[simp] theorem unl_intA {i : Int} : unl (.int i) = .int i := rfl
@[simp] theorem unl_strA {x : Str} : unl (.str x) = .str x := rfl
@[simp] theorem unl_tupA {ds : List D} : unl (.tup ds) = .tup ds := rfl
@[simp] theorem unl_lstA {ds : List D} : unl (.lst ds) = .lst ds := rfl
@[simp] theorem unl_scrA {ns : List Int} : unl (.scr ns) = .scr ns := rfl
@[simp] theorem unl_tlA {n : Nat} {ds : List D} : unl (.tl n ds) = .lst ds := rfl
@[simp] theorem unl_objA {c : Str} {fs : List (Str × D)} : unl (.obj c fs) = .obj c fs := rfl
@[simp] theorem unl_xtA {k : Xk} {ks vs : List D} : unl (.xt k ks vs) = .xt k ks vs := rfl
@[simp] theorem unl_excA {c : Str} {fs : List (Str × D)} : unl (.exc c fs) = .exc c fs := rfl
@[simp] theorem unl_fnA {x : Str} : unl (.fn x) = .fn x := rfl
@[simp] theorem fz_imA {d : D} : fz (.im d) ρ = .ok d ρ := rfl
@[simp] theorem fz_owA {oc : OC} : fz (.ow oc) ρ = .ok oc.D ρ := rfl
@[simp] theorem asB_blA {b : Bool} : asB (.im (.bl b)) ρ = .ok b ρ := rfl
@[simp] theorem asSV_imA {d : D} : asSV (.im d) ρ = .ok (.im d) ρ := rfl
@[simp] theorem asSV_owA {oc : OC} : asSV (.ow oc) ρ = .ok (.ow false oc) ρ := rfl
@[simp] theorem notBo_imA {d : D} : notBo (.im d) = true := rfl
@[simp] theorem notBo_owA {d : OC} : notBo (.ow d) = true := rfl
@[simp] theorem atI_0A {x : α} {l : List α} : atI (x :: l) 0 = some x := by
  have := atI_nat (xs := x :: l) (j := 0) (v := x) rfl
  exact this
@[simp] theorem atI_1A {x y : α} {l : List α} : atI (x :: y :: l) 1 = some y := atI_nat (xs := x :: y :: l) (j := 1) (v := y) rfl
@[simp] theorem atI_2A {x y z : α} {l : List α} : atI (x :: y :: z :: l) 2 = some z := atI_nat (xs := x :: y :: z :: l) (j := 2) (v := z) rfl
@[simp] theorem atI_3A {x y z u : α} {l : List α} : atI (x :: y :: z :: u :: l) 3 = some u := atI_nat (xs := x :: y :: z :: u :: l) (j := 3) (v := u) rfl
theorem atI_map {γ : Type} {f : α → γ} {l : List α} {i : Int} : atI (l.map f) i = (atI l i).map f := by
  unfold atI
  rw [List.length_map]
  cases ixN l.length i with
  | none => rfl
  | some j => simp
theorem atI_in {l : List α} {i : Int} (h0 : 0 ≤ i) (h1 : i < l.length) : ∃ x, atI l i = some x ∧ x ∈ l := by
  have hj : i.toNat < l.length := by omega
  refine ⟨l[i.toNat], ?_, List.getElem_mem hj⟩
  have := atI_nat (xs := l) (j := i.toNat) (v := l[i.toNat]) (List.getElem?_eq_getElem hj)
  rw [Int.toNat_of_nonneg h0] at this
  exact this
end
section
variable {i j : Int} {x y : Str} {b c : Bool} {ds es : List D} {d e : D} {ns : List Int}
theorem okc_int : okc (.int i) = true := rfl
theorem okc_bl : okc (.bl b) = true := rfl
def SOk (x : Str) : Prop := okc (.str x) = true
@[simp] theorem eqD_intA : eqD (.int i) (.int j) = some (.im (.bl (decide (i = j)))) := by
  unfold eqD
  rw [if_pos (by rw [okc_int, okc_int]; rfl)]
  congr 3
@[simp] theorem neD_intA : neD (.int i) (.int j) = some (.im (.bl (!decide (i = j)))) := by
  unfold neD
  rw [if_pos (by rw [okc_int, okc_int]; rfl)]
  congr 3
@[simp] theorem eqD_blA : eqD (.bl b) (.bl c) = some (.im (.bl (b == c))) := by
  unfold eqD
  rw [if_pos (by rw [okc_bl, okc_bl]; rfl)]
  rfl
@[simp] theorem neD_blA : neD (.bl b) (.bl c) = some (.im (.bl (!(b == c)))) := by
  unfold neD
  rw [if_pos (by rw [okc_bl, okc_bl]; rfl)]
  rfl
theorem eqD_strA (hx : SOk x) (hy : SOk y) : eqD (.str x) (.str y) = some (.im (.bl (x == y))) := by
  unfold eqD
  rw [if_pos (by rw [show okc (.str x) = true from hx, show okc (.str y) = true from hy]; rfl)]
  rfl
@[simp] theorem addD_intA : addD (.int i) (.int j) = some (.im (.int (i + j))) := rfl
@[simp] theorem subD_intA : subD (.int i) (.int j) = some (.im (.int (i - j))) := rfl
theorem log2_lt {n k : Nat} (h : n < 2 ^ k) (hk : 0 < k) : n.log2 < k := by
  by_cases h0 : n = 0
  · subst h0
    exact hk
  · exact (Nat.log2_lt h0).mpr h
theorem mulD_ok {a b : Nat} (h1 : i.natAbs.log2 < a) (h2 : j.natAbs.log2 < b) (h : a + b ≤ 1000000) : mulD (.int i) (.int j) = some (.im (.int (i * j))) := by
  show (if cMul i j = true then _ else none) = _
  rw [if_pos]
  exact decide_eq_true (by omega)
def Sml (i : Int) : Prop := i.natAbs.log2 < 499999
def Dvs (j : Int) : Prop := j ≠ 0 ∧ j.natAbs.log2 < 9000
theorem Sml.of {i : Int} {k : Nat} (h : i.natAbs < 2 ^ k) (hk : 0 < k) (hk2 : k ≤ 499999) : Sml i := Nat.lt_of_lt_of_le (log2_lt h hk) hk2
theorem Dvs.of {i : Int} {k : Nat} (h0 : i ≠ 0) (h : i.natAbs < 2 ^ k) (hk : 0 < k) (hk2 : k ≤ 9000) : Dvs i := ⟨h0, Nat.lt_of_lt_of_le (log2_lt h hk) hk2⟩
@[simp] theorem mulD_A (h1 : Sml i) (h2 : Sml j) : mulD (.int i) (.int j) = some (.im (.int (i * j))) := mulD_ok h1 h2 (by decide)
@[simp] theorem fdivD_A (h : Dvs j) : fdivD (.int i) (.int j) = some (.im (.int (i.fdiv j))) := by
  show (if cDiv i j = true then _ else none) = _
  rw [if_pos]
  exact decide_eq_true ⟨h.1, .inl h.2⟩
@[simp] theorem modD_A (h1 : j ≠ 0) : modD (.int i) (.int j) = some (.im (.int (i.fmod j))) := by
  show (if _ then _ else none) = _
  rw [if_pos h1]
@[simp] theorem ltD_intA : ltD (.int i) (.int j) = some (.im (.bl (decide (i < j)))) := rfl
@[simp] theorem leD_intA : leD (.int i) (.int j) = some (.im (.bl (decide (i ≤ j)))) := rfl
@[simp] theorem gtD_intA : gtD (.int i) (.int j) = some (.im (.bl (decide (j < i)))) := rfl
@[simp] theorem geD_intA : geD (.int i) (.int j) = some (.im (.bl (decide (j ≤ i)))) := rfl
@[simp] theorem ixD_lstA : ixD (.lst ds) (.int i) = (atI ds i).map RV.im := rfl
@[simp] theorem ixD_tupA : ixD (.tup ds) (.int i) = (atI ds i).map RV.im := rfl
@[simp] theorem ixD_scrA : ixD (.scr ns) (.int i) = (atI ns i).map fun n => RV.im (.int n) := rfl
@[simp] theorem gLen_lstA : gLen [.lst ds] = some (.im (.int ds.length)) := rfl
@[simp] theorem gLen_tupA : gLen [.tup ds] = some (.im (.int ds.length)) := rfl
@[simp] theorem gLen_scrA : gLen [.scr ns] = some (.im (.int ns.length)) := rfl
theorem gLen_str (h : x.length ≤ 1000000) : gLen [.str x] = some (.im (.int x.length)) := by
  show (if _ then _ else none) = _
  rw [if_pos h]
@[simp] theorem gList_lstA : gList [.lst ds] = some (.ow (.ls ds)) := rfl
@[simp] theorem gList_scrA : gList [.scr ns] = some (.ow (.ls (ns.map D.int))) := rfl
@[simp] theorem slD_lstA {lo hi : Option Int} : slD (.lst ds) lo hi = some (.ow (.ls (cutL ds lo hi))) := rfl
@[simp] theorem slD_scrA {lo hi : Option Int} : slD (.scr ns) lo hi = some (.ow (.ls ((cutL ns lo hi).map D.int))) := rfl
@[simp] theorem isi_blA {T : String} : isiD T (.bl b) = some (.im (.bl (isT "bool" T))) := rfl
@[simp] theorem isi_intA {T : String} : isiD T (.int i) = some (.im (.bl (isT "int" T))) := rfl
@[simp] theorem isi_strA {T : String} : isiD T (.str x) = some (.im (.bl (isT "str" T))) := rfl
@[simp] theorem isi_lstA {T : String} : isiD T (.lst ds) = some (.im (.bl (isT "list" T))) := rfl
@[simp] theorem isi_tupA {T : String} : isiD T (.tup ds) = some (.im (.bl (isT "tuple" T))) := rfl
@[simp] theorem isi_nonA {T : String} : isiD T .non = some (.im (.bl (isT "NoneType" T))) := rfl
@[simp] theorem isi2_blA {T U : String} : isiD2 T U (.bl b) = some (.im (.bl (isT "bool" T || isT "bool" U))) := rfl
@[simp] theorem isi2_intA {T U : String} : isiD2 T U (.int i) = some (.im (.bl (isT "int" T || isT "int" U))) := rfl
@[simp] theorem isi2_strA {T U : String} : isiD2 T U (.str x) = some (.im (.bl (isT "str" T || isT "str" U))) := rfl
@[simp] theorem isi2_lstA {T U : String} : isiD2 T U (.lst ds) = some (.im (.bl (isT "list" T || isT "list" U))) := rfl
@[simp] theorem isi2_tupA {T U : String} : isiD2 T U (.tup ds) = some (.im (.bl (isT "tuple" T || isT "tuple" U))) := rfl
@[simp] theorem isi2_nonA {T U : String} : isiD2 T U .non = some (.im (.bl (isT "NoneType" T || isT "NoneType" U))) := rfl
theorem cut63 {α : Type} {xs : List α} (h : xs.length ≤ 63) : cutL xs none (some 63) = xs := by
  have e : HT.sIx xs.length xs.length (some 63) = xs.length := by
    have := HT.sIx_nat xs.length xs.length 63
    rw [show (some ((63 : Nat) : Int)) = some (63 : Int) from rfl] at this
    rw [this]
    omega
  unfold cutL
  rw [e, HT.sIx_none]
  simp
end
theorem floop_inv {gm : D → SE → R Unit} {b : DM Fl} {I : SE → Prop} : ∀ {ds : List D} {ρ : SE}, (∀ d ∈ ds, ∀ ρ, I ρ → ∃ ρ1 f ρ2, gm d ρ = .ok () ρ1 ∧ b ρ1 = .ok f ρ2 ∧ (f = .nx ∨ f = .ct) ∧ I ρ2) → I ρ → ∃ ρ', floop gm b ds ρ = .ok .nx ρ' ∧ I ρ'
  | [], ρ, _, h => ⟨ρ, rfl, h⟩
  | d :: ds, ρ, hs, h => by
    obtain ⟨ρ1, f, ρ2, e1, e2, e3, h2⟩ := hs d List.mem_cons_self ρ h
    obtain ⟨ρ', e4, h4⟩ := floop_inv (fun d hd => hs d (List.mem_cons_of_mem _ hd)) h2
    refine ⟨ρ', ?_, h4⟩
    unfold floop
    rw [e1, bind_okA, e2, bind_okA]
    rcases e3 with e3 | e3 <;> subst e3 <;> exact e4
theorem cLoop_pure {vs : List Nat} {gm : D → SE → R Unit} {mt : DM Bool} {me : DM RV} {ρ : SE} {f : D → Option D} (hn : noOw ρ vs = true) : ∀ {ds acc : List D}, (∀ d ∈ ds, cTurn vs gm mt me d ρ = .ok (f d) ρ) → acc.length + ds.length ≤ 1000000 → cLoop vs gm mt me ds acc ρ = .ok (acc ++ ds.filterMap f) ρ
  | [], acc, _, _ => by
    unfold cLoop
    simp
  | d :: ds, acc, hs, hl => by
    rw [List.length_cons] at hl
    unfold cLoop
    rw [if_pos (by rw [hn]; simp; omega), hs d List.mem_cons_self, bind_okA]
    have hh : (addO acc (f d)).length + ds.length ≤ 1000000 := by
      cases f d with
      | none =>
        show acc.length + _ ≤ _
        omega
      | some y =>
        show (acc ++ [y]).length + _ ≤ _
        rw [List.length_append]
        simp
        omega
    rw [cLoop_pure hn (fun d hd => hs d (List.mem_cons_of_mem _ hd)) hh]
    cases e : f d with
    | none => simp [addO, e]
    | some y => simp [addO, e]
theorem cLoop_map {vs : List Nat} {gm : D → SE → R Unit} {mt : DM Bool} {me : DM RV} {ρ : SE} {f : D → D} (hn : noOw ρ vs = true) {ds acc : List D} (h : ∀ d ∈ ds, cTurn vs gm mt me d ρ = .ok (some (f d)) ρ) (hl : acc.length + ds.length ≤ 1000000) : cLoop vs gm mt me ds acc ρ = .ok (acc ++ ds.map f) ρ := by
  rw [cLoop_pure hn (f := fun d => some (f d)) h hl]
  congr 2
  induction ds with
  | nil => rfl
  | cons d ds ih => simp
theorem asBls_map (bs : List Bool) : asBls (bs.map D.bl) = some bs := by
  induction bs with
  | nil => rfl
  | cons b bs ih =>
    rw [List.map_cons]
    unfold asBls
    rw [ih]
    rfl
theorem asBls_trues {α : Type} (zs : List α) : asBls (zs.map fun _ => D.bl true) = some (zs.map fun _ => true) := by
  rw [← asBls_map, List.map_map]
  rfl
end DL

/- part -/
set_option Elab.async false
set_option linter.all false
set_option maxRecDepth 100000
set_option maxHeartbeats 1000000
namespace DL
open PySem PySem.Spec PyProof.Rows L2
def spI (K : PySem.W.Frag) (n : Nat) (mk : List V → List (Str × V)) : Sp := fun vs H Q _ => ∃ (a C : Addr) (ws : List V), vs = .ref a :: ws ∧ ws.length = n ∧ OexC K C ∧ PySem.W.findIn K (.ref C) "tag" = some none ∧ (∀ f ∈ (mk ws).map (·.1), PySem.W.findIn K (.ref C) f = some none) ∧ H a = some (exo a C none) ∧
  ∀ dx, H dx = none → dx ≠ a → Q .non (upd (upd H dx (exd dx (mk ws))) a (exo a C (some dx)))
section
variable {P : Program} {w : World} {base : Heap} {M : Mx} {K : PySem.W.Frag} {mg : Str → Option Value}
theorem upd_two {H : Hp} {a dx : Addr} {o1 o2 u : HO} (ne : dx ≠ a) : upd (upd (upd H dx o1) a u) dx o2 = upd (upd H dx o2) a u := by
  funext b
  by_cases h1 : b = dx
  · subst h1
    rw [upd_same, upd_ne ne, upd_same]
  · rw [upd_ne h1]
    by_cases h2 : b = a
    · subst h2
      rw [upd_same, upd_same]
    · rw [upd_ne h2, upd_ne h1, upd_ne h2, upd_ne h1]
theorem init2 {qual T g x : Str} {st : Stmt} {f : Addr} {fd : FuncData} {j : Nat} {p1 p2 p3 p4 p5 p6 p7 p8 : Pos} (Fu : Fun K "__init__" qual st f fd) (S : FnScope ["self", x] ["self", x] (defScope st)) (hb : defBody st = [.Assign [.Attribute (.Name "self" p1) "tag" p2] (.Constant (.str T) j p3) p4, .Assign [.Attribute (.Name "self" p5) g p6] (.Name x p7) p8]) (hv : Vis (defScope st) "self") (hv2 : Vis (defScope st) x) (hd : (x == ("__debug__" : Str)) = false) (hcd : (x == ("__classdict__" : Str)) = false)
    (hsw : ∀ env : Env, swapsWith (.Name x p7) (some (.Attribute (.Name "self" p5) g p6)) p8.line env = pure false := by intro _; rfl) :
    FnOk P w K mg base (L2.CX P w) 1 f fd ["self", x] (spI K 1 fun ws => [(g, ws.getD 0 .non), ("tag", .str T)]) := by
  refine Fu.okX S (fun vs H Q E h => ?_) (fun cdv A outer s H vs Q E hr h => ?_)
  · obtain ⟨a, C, ws, rfl, hw, _⟩ := h
    rw [List.length_cons, hw]
    rfl
  · obtain ⟨a, C, ws, rfl, hw, T', hf, hfs, ha, k⟩ := h
    match ws, hw with
    | [v], _ =>
      rw [hb]
      refine ⟨_, pss_cons (ps_ost (pv 0 rfl hv) pe_str) (pss_one (ps_ost (pv 0 rfl hv) (pe_var (i := 1) rfl hv2 hd hcd) (hsw _))), ?_⟩
      refine ⟨_, rfl, a, C, rfl, T', hf, .inl ⟨ha, fun dx n ne => ?_⟩⟩
      refine ⟨v, rfl, _, rfl, a, C, rfl, T', hfs g (by simp), .inr ⟨dx, [("tag", .str T)], upd_same, ?_, by show 1 ≤ 900; decide, ?_⟩⟩
      · rw [upd_ne ne, upd_same]
      · rw [upd_two ne]
        exact k dx n ne
structure ExcAt (M : Mx) (c : Str) (ps : List Str) (mk : List V → List (Str × V)) where
  fI : Addr
  fd : FuncData
  g : M.mg c = some (.ref (M.ca c))
  oex : OexC M.K (M.ca c)
  iC : PySem.W.findIn M.K (.ref (M.ca c)) "__init__" = some (some (.ref fI))
  tI : PySem.W.typeIn M.K (.ref fI) = some (.type "function")
  tag : PySem.W.findIn M.K (.ref (M.ca c)) "tag" = some none
  fs : ∀ ws, ∀ f ∈ (mk ws).map (·.1), PySem.W.findIn M.K (.ref (M.ca c)) f = some none
  xf : XfC M.K (M.ca c)
  b : Binds M.K fd ps []
  ok : ∀ (P : Program) (w : World) (base : Heap), FnOk P w M.K M.mg base (L2.CX P w) 1 fI fd ps (spI M.K (ps.length - 1) mk)
end
theorem XcOk.mk' {K : PySem.W.Frag} {C : Addr} {ns : List Str} (h : XfC K C) (h2 : ∀ f ∈ ns, PySem.W.findIn K (.ref C) f = some none) : XcOk K C ns := ⟨h, h2⟩
theorem fz_ex {r : RV} {ρ ρ' : SE} {x : Exc} (e : fz r ρ = .ex x ρ') : False := by
  cases r with
  | im d => cases e
  | ow ds => cases e
  | ot ds d => cases e
  | bt k d => cases e
  | bo i =>
    have e : (match ρ[i]? with
      | some (.ow false oc) => R.ok oc.D (ρ.set i (.im oc.D))
      | _ => .bad) = .ex x ρ' := e
    split at e <;> cases e
theorem del_upd {H : Hp} {a dx : Addr} {o1 o2 o3 u : HO} (n : H a = none) (ne : dx ≠ a) : upd (del (upd (upd (upd H a o1) dx o2) a o3) a) dx u = upd H dx u := by
  funext b
  by_cases h1 : b = dx
  · subst h1
    rw [upd_same, upd_same]
  · rw [upd_ne h1, upd_ne h1]
    by_cases h2 : b = a
    · subst h2
      rw [del_same, n]
    · rw [del_ne h2, upd_ne h2, upd_ne h1, upd_ne h2]
section
variable {P : Program} {w : World} {base : Heap} {N : List Str} {sc : Scope} {j : Nat}
variable {M : Mx} {W : WX} {X : Cx} {F H F' H' F1 H1 F2 H2 H0 : Hp} {σ σ1 : L2.St} {ρ ρ1 ρ2 : SE}
variable {a b c e : Expr} {ma mb m : DM RV} {es : List Expr} {pos p p' : Pos} {x : Str}
def sRaise1 (c T f : Str) (ma : DM RV) : DM Fl := fun ρ => (dFz ma ρ).bind fun d ρ1 => .ex ⟨c, [(f, d), ("tag", .str T)]⟩ ρ1
theorem exc_new {vs : List (Str × V)} {fs : List (Str × D)} {c : Str} {dx : Addr} (sm : Sim M F H σ ρ) (n : H dx = none) (r : RepF M F vs fs) (xc : XcOk M.K (M.ca c) (fs.map (·.1))) : ∃ F', Alc F H F' (upd H dx (.xd vs)) ∧ ExcOk M F' (upd H dx (.xd vs)) (.ref (M.ca c)) (some dx) ⟨c, fs⟩ :=
  ⟨_, Alc.newF' sm.sub n, rfl, dx, vs, rfl, upd_same, r.up (same_upd (sm.sub.free n)), xc⟩
theorem ds_raise1 {T f : Str} {q : Str} (C : CxD P w base M N sc j X W) (Ex : ExcAt M x ["self", q] fun ws => [(f, ws.getD 0 .non), ("tag", .str T)]) (g : GlOk sc x) (hj : 2 ≤ j) (ha : DE X M W a ma)
    (he : starEach [a] X.env = (false, eval a X.env) :: starEach [] X.env := by rfl) (hpl : (backTo pos (starEach [] X.env)).any (·.1) = false := by rfl) : DS X M W (.Raise (some (.Call (.Name x p) [a] [] pos)) none p') (sRaise1 x T f ma) := by
  obtain ⟨fI, fd, eg, oex, iC, tI, tag, fs, xf, b, ok⟩ := Ex
  have xc := fun ws => XcOk.mk' xf (fs ws)
  obtain ⟨ta, pa, qa⟩ := ha
  have hK := C.hK
  have hM := C.hM
  have ok := ok X.prog X.w X.base
  rw [hK, hM] at ok
  rw [hK] at oex iC tI tag fs b
  rw [hM] at eg
  refine ⟨_, ps_raise C.cm C.tk (pmk_oex (dvs := []) oex iC tI ok (C.hr.mono hj) b .nil (fun pins σ H s e s' I ⟨_, _, _, _, _, _, _, _, _, _, _, _, z⟩ => z.elim) (C.glo g) eg (pa_cons pa pa_nil he) g.nd he hpl), fun σ H F ρ E sm h => ?_⟩
  refine qa σ H F ρ _ sm ?_
  unfold sRaise1 dFz at h
  cases e1 : ma ρ with
  | bad =>
    rw [e1] at h
    exact h
  | ex x' ρ' =>
    rw [e1] at h
    exact fun F' H' cls d st sm ok => h F' H' σ cls d st sm ok
  | ok r ρ1 =>
    rw [e1] at h
    intro F1 H1 v st1 sm1 ok1
    have h : PostS M W σ ρ F H ((fz r ρ1).bind fun d ρ1 => .ex ⟨x, [(f, d), ("tag", .str T)]⟩ ρ1) E := h
    cases e2 : fz r ρ1 with
    | bad =>
      rw [e2] at h
      exact h.elim
    | ex x' ρ' => exact (fz_ex e2).elim
    | ok d ρ2 =>
      rw [e2] at h
      obtain ⟨F2, st2, sm2, r2, _⟩ := fz_ok st1 ok1 sm1 e2
      refine ⟨by show 1 ≤ 1000; decide, fun a na => ⟨a, M.ca x, [v], rfl, rfl, oex, tag, fs [v], upd_same, fun dx n ne => ⟨rfl, dx, [(f, v), ("tag", .str T)], upd_same, ?_, ?_, ?_⟩⟩⟩
      · rw [upd_ne ne, upd_same]
        rfl
      · rw [upd_ne ne] at n
        exact n
      · rw [upd_ne ne] at n
        rw [del_upd na ne]
        obtain ⟨F', al, ex⟩ := exc_new (c := x) (vs := [(f, v), ("tag", V.str T)]) (fs := [(f, d), ("tag", D.str T)]) sm2 n (.cons r2 (.cons (.str T) .nil)) (xc [v])
        exact h F' _ σ _ _ (st2.trans (al.stp _ _)) (sm2.alc al) ex
end
end DL

/- part -/
set_option Elab.async false
set_option linter.all false
set_option maxRecDepth 100000
namespace DL
open PySem PySem.Spec L2 PyProof.Rows
def goneEnds (i : Nat) (D : Ends) : Ends := { nx := fun τ G => D.nx (τ.set i none) G, rt := D.rt, bk := fun τ G => D.bk (τ.set i none) G, ct := fun τ G => D.ct (τ.set i none) G }
def wAs3 (K : PySem.W.Frag) (cs : List Value) (i : Nat) (ts : Addr → Value → Option Addr → TS) (D : Ends) : L2.WX := fun cls d σ H =>
  PySem.W.exmAny K cls cs = some true ∧ ∀ a, H a = none → ts a cls d (goneEnds i D) (σ.set i (some (.ref a))) H
structure Landed (X : Cx) (pins : List (Addr × Obj)) (τ : L2.St) (G : Hp) (B : Heap) (a : Addr) (cls : Value) (d : Option Addr) (t : Shared) : Prop where
  inv : L2.Inv X pins τ G t
  fly : PySem.HandSPX.FlyingZ B (X.env :: X.outer) a (Zc cls d) t.heap
  out : a ∉ frs (X.env :: X.outer)
  new : G a = none
  low : X.base.get? a = none
section
variable {X : Cx} {pins : List (Addr × Obj)} {τ : L2.St} {G : Hp} {B : Heap} {a : Addr} {cls : Value} {d : Option Addr} {t : Shared}
theorem flying_keep {h h' : Heap} {l : List Env} {e : Addr} {Z : Obj → Prop} (k : ∀ b o, h.get? b = some o → h'.get? b = some o) (x : PySem.HandSPX.FlyingZ B l e Z h) : PySem.HandSPX.FlyingZ B l e Z h' :=
  let ⟨stay, nB, ff, oe, vs, T, oT, ts, q1, q2, q3, q4, q5, q6, q7, q8⟩ := x
  ⟨fun b o q => k b o (stay b o q), nB, Heap.FunFrames.of_keeps (fun b o q _ => ⟨o, k b o q, rfl⟩) ff, oe, vs, T, oT, ts, k _ _ q1, q2, q3, q4, q5, q6, k _ _ q7, q8⟩
theorem Landed.mk' (inv : L2.Inv X pins τ G t) (fly : PySem.HandSPX.FlyingZ B (X.env :: X.outer) a (Zc cls d) t.heap) (new : G a = none) (low : X.base.get? a = none) : Landed X pins τ G B a cls d t := by
  refine ⟨inv, fly, fun inF => ?_, new, low⟩
  obtain ⟨oe, vs, q1, _, q2⟩ := fly.there
  obtain ⟨_, ob, q3, nf⟩ := fly.2.2.1.mem inF
  exact nf vs (by rw [← Option.some.inj (q1.symm.trans q3)]; exact q2)
theorem Landed.suite (L : Landed X pins τ G B a cls d t) (fr : X.env.frame = some X.env.locals) : ∃ oe, t.heap.get? a = some oe ∧ Zc cls d oe ∧ (∃ vs, oe.data = .fields vs) ∧ L2.Inv (X.suite a ((a, oe) :: (X.pn ++ pins))) [] τ G t := by
  obtain ⟨oe, vs, q1, z, q2⟩ := L.fly.there
  refine ⟨oe, q1, z, ⟨vs, q2⟩, L.inv.suite q1 q2 L.new (fun y => L.out ?_) fun y => L.out ?_⟩
  · rw [y]
    exact List.mem_filterMap.mpr ⟨X.env, .head _, fr⟩
  · obtain ⟨e, q3, q4⟩ := List.mem_filterMap.mp (show a ∈ X.outer.filterMap _ from y)
    exact List.mem_filterMap.mpr ⟨e, .tail _ q3, q4⟩
theorem Landed.named (L : Landed X pins τ G B a cls d t) (fr : X.env.frame = some X.env.locals) {x : Str} {c : Value} {p : Pos} {R E : Value → Shared → Prop} (n : Names X x c) (q : R c t) : wpAny (model X.prog X.w) (X.A.mark (some (.ref a))) (eval (.Name x p) X.env) R E t := by
  obtain ⟨oe, _, _, _, S⟩ := L.suite fr
  rcases n.2.2 with m | m
  · exact ld_glob S n.1 m q n.2.1
  · exact ld_blt S n.1 m.1 m.2.1 q m.2.2 n.2.1
theorem Landed.ty (L : Landed X pins τ G B a cls d t) : PySem.W.Looks (model X.prog X.w) t.heap (typeOf (.ref a)) cls := by
  obtain ⟨oe, _, q1, z, _⟩ := L.fly.there
  intro A Q E s k q
  exact wpAny_typeOf_ref (k _ _ q1) (z.1 ▸ q)
theorem suite_end {i : Nat} {n : Str} {p : Pos} {oe : Obj} {D : Ends} (ok : X.Ok) (nd : X.N.Nodup) (ni : X.N[i]? = some n) (nl : X.env.kindOf n = some .local) : ∀ (f : Flow), SP (X.suite a ((a, oe) :: (X.pn ++ pins))) [] (goneEnds i D) f t →
    wpAny (model X.prog X.w) X.A (do bindName X.env n .none; unbindBehindTheSuite X.env n p) (fun _ t' => SP X pins D f t') X.xe t := by
  intro f hf
  have out : ∀ {τ' : L2.St} {G' : Hp} {R : Shared → Prop}, L2.Inv (X.suite a ((a, oe) :: (X.pn ++ pins))) [] τ' G' t → (∀ t', L2.Inv X pins (τ'.set i none) G' t' → R t') → wpAny (model X.prog X.w) X.A (do bindName X.env n .none; unbindBehindTheSuite X.env n p) (fun _ t' => R t') X.xe t :=
    fun S r => gone_ok (S.unsuite ok) nd ni nl r
  match f, hf with
  | .next, ⟨τ', G', S, q⟩ => exact out S fun t' J => ⟨_, G', J, q⟩
  | .brk, ⟨τ', G', S, q⟩ => exact out S fun t' J => ⟨_, G', J, q⟩
  | .cont, ⟨τ', G', S, q⟩ => exact out S fun t' J => ⟨_, G', J, q⟩
  | .ret u, ⟨v, τ', G', S, r, q⟩ => exact out S fun t' J => ⟨v, _, G', J, r, q⟩
theorem sp_back {D : Ends} {pn : List (Addr × Obj)} {xe : Value → Shared → Prop} (ok : X.Ok) : ∀ (f : Flow), SP (X.tr (X.pn ++ pins) xe) [] D f t → SP X pins D f t
  | .next, ⟨τ', G', J, q⟩ => ⟨τ', G', J.ofTry ok, q⟩
  | .brk, ⟨τ', G', J, q⟩ => ⟨τ', G', J.ofTry ok, q⟩
  | .cont, ⟨τ', G', J, q⟩ => ⟨τ', G', J.ofTry ok, q⟩
  | .ret u, ⟨v, τ', G', J, r, q⟩ => ⟨v, τ', G', J.ofTry ok, r, q⟩
end
section
variable {X : Cx} {x1 x2 x3 n : Str} {c1 c2 c3 : Value} {i : Nat} {body suite : List Stmt} {b₀ : Stmt} {p1 p2 p3 tp pos pos' : Pos} {kk : Nat} {tb : L2.WX → TS} {ts : Addr → Value → Option Addr → TS}
abbrev clause3 (x1 x2 x3 n : Str) (p1 p2 p3 tp pos' : Pos) (kk : Nat) (suite : List Stmt) : ExceptHandler := .ExceptHandler (some (.Tuple [.Name x1 p1, .Name x2 p2, .Name x3 p3] kk tp)) (some n) suite pos'
theorem ps_try_as3 (hs : X.stack = X.env :: X.outer) (fr : X.env.frame = some X.env.locals) (nd : X.N.Nodup) (ni : X.N[i]? = some n) (nl : X.env.kindOf n = some .local) (n1 : Names X x1 c1) (n2 : Names X x2 c2) (n3 : Names X x3 c3)
    (hb : ∀ (W : L2.WX) (pn : List (Addr × Obj)) (xe : Value → Shared → Prop), Takes (X.tr pn xe) W → PassesOwn (model X.prog X.w) X.A X.env xe → PSs (X.tr pn xe) body (tb W))
    (hsu : ∀ (a : Addr) (oe : Obj) (cls : Value) (d : Option Addr) (pn : List (Addr × Obj)), Zc cls d oe → (∃ vs, oe.data = .fields vs) → X.base.get? a = none → PSs (X.suite a ((a, oe) :: pn)) (b₀ :: suite) (ts a cls d)) :
    PS X (.Try body [clause3 x1 x2 x3 n p1 p2 p3 tp pos' kk (b₀ :: suite)] [] [] pos) (fun D σ H => tb (wAs3 X.K [c1, c2, c3] i ts D) D σ H) := by
  constructor
  intro pins s σ H D inv want
  have ok := inv.ok
  have fra : X.A.frames = some (X.env :: X.outer) := ok.frames.trans (by rw [hs])
  apply wpAny_Try_except
  refine wpAny_mono ((hb (wAs3 X.K [c1, c2, c3] i ts D) (X.pn ++ pins) (fun e t₁ => wpAny (model X.prog X.w) X.A (noteFrame e X.env) (fun _ t₂ => wpAny (model X.prog X.w) X.A (setFlight e none) (fun _ t₃ =>
    wpAny (model X.prog X.w) X.A (handleBy e X.env [clause3 x1 x2 x3 n p1 p2 p3 tp pos' kk (b₀ :: suite)]) (SP X pins D) X.xe t₃) X.xe t₂) X.xe t₁) ?_ PassesOwn.looking).run [] s σ H D (inv.toTry _) want) ?_ fun _ _ y => y
  · rintro u t ⟨a, B, sI, _, τ, G, cls, d, rfl, J0, nb, up, sky, na, os, ag, match3, go⟩
    have J := J0.ofTry ok
    refine Sky.land Zc.steady fra fr (hs ▸ sky) fun h1 fly1 up1 => ?_
    have low : X.base.get? a = none := by
      rcases q : X.base.get? a with _ | o
      · rfl
      · by_cases hm : a ∈ frs X.stack
        · have z := (J.stack.mem hm).1
          rw [q] at z
          cases z
        · have z := nb a o (J.bk a o q) hm
          rw [fly1.2.1] at z
          cases z
    have L1 : Landed X pins τ G B a cls d { t with heap := h1 } := .mk' (J.landed nb fly1.1 (up.trans up1) os ag) fly1 na low
    refine wpAny_handleBy_cons (codeAny_handlers_test (wpAny_Tuple (wpAny_items_cons (L1.named fr n1 (wpAny_items_cons (L1.named fr n2 (wpAny_items_cons (L1.named fr n3 (wpAny_items_nil ⟨by size_fits, ?_⟩))))))))) (by rintro ⟨⟩)
    have grown : ∀ b o, h1.get? b = some o → (h1.push { cls := .type "tuple", data := .seq [c1, c2, c3].toArray }).get? b = some o := fun _ _ => Heap.get?_push_of_some _
    have J2 : L2.Inv X pins τ G { t with heap := h1.push { cls := .type "tuple", data := .seq [c1, c2, c3].toArray } } := L1.inv.kept (t' := t.toks) grown
    refine (PySem.W.exm_tup3 (M := model X.prog X.w) J2.kIn (L1.ty.keeps grown) (Heap.get?_push_size h1 rfl) match3).here (codeAny_handlers_suite_as ?_)
    refine PySem.HandSPX.lands_againZ (flying_keep grown fly1) fun h3 fly3 up3 => ?_
    have L3 : Landed X pins τ G B a cls d { t with heap := h3 } := .mk' (J.landed nb fly3.1 (((up.trans up1).trans (.of_keeps grown)).trans up3) os ag) fly3 na low
    obtain ⟨oe, _, z, hf, S3⟩ := L3.suite fr
    refine store_ok (X := X.suite a ((a, oe) :: (X.pn ++ pins))) (v := .ref a) S3 nd ni (.inl nl) rfl (fun t4 S4 => ?_) (.inr nl)
    exact wpAny_mono ((hsu a oe cls d (X.pn ++ pins) z hf low).run [] t4 _ G _ S4 (go a na)) (fun f t5 => suite_end ok nd ni nl f) fun _ _ y => y.elim
  · intro f t hf
    have := sp_back (pn := []) ok f hf
    cases f with
    | next => exact wpAny_execs_nil this
    | _ => exact this
end
end DL

/- part -/
set_option Elab.async false
set_option linter.all false
set_option maxRecDepth 100000
set_option maxHeartbeats 1000000
namespace DL
open PySem PySem.Spec PyProof.Rows L2
def tXe (K : PySem.W.Frag) (te : TE) (f : Str) : TE := fun σ H Q => te σ H fun x H1 => ∃ (a C dd : Addr) (oe : Obj) (fs : List (Str × V)) (v : V), x = .ref a ∧ H1 a = some (xo a oe) ∧ Zc (.ref C) (some dd) oe ∧ (∃ vs, oe.data = .fields vs) ∧ H1 dd = some (.xd fs) ∧
  XfC K C ∧ PySem.W.findIn K (.ref C) f = some none ∧ fs.lookup f = some v ∧ Q v H1
theorem xo_at {P : Program} {w : World} {H : Hp} {h : Heap} {a : Addr} {oe : Obj} (hok : HOk P w H h) (e : H a = some (xo a oe)) : h.get? a = some oe := by
  have x : ObjOk P w H h a (.ext fun h => h.get? a = some oe) := hok a _ e
  exact x.1
theorem xo_ok {P : Program} {w : World} {H : Hp} {h : Heap} {a : Addr} {oe : Obj} (e : h.get? a = some oe) : ObjOk P w H h a (xo a oe) := ⟨e, ⟨oe, e⟩, fun h1 h2 z k => k _ z⟩
theorem xo_get {X : Cx} {pins : List (Addr × Obj)} {τ : L2.St} {G : Hp} {t : Shared} {a C dd : Addr} {oe : Obj} {fs : List (Str × V)} {v : V} {n : Str} {R : VK} {sw : Bool} (inv : L2.Inv X pins τ G t) (ea : G a = some (xo a oe)) (z : Zc (.ref C) (some dd) oe) (fld : ∃ vs, oe.data = .fields vs) (ed : G dd = some (.xd fs))
    (xf : XfC X.K C) (no : PySem.W.findIn X.K (.ref C) n = some none) (l : fs.lookup n = some v) (q : R v G) : wpAny (model X.prog X.w) X.A (getAttr (.ref a) n sw) (EP X pins τ R) X.xe t := by
  rcases fld with ⟨vs, ev⟩
  rcases (show ObjOk X.prog X.w G t.heap dd (.xd fs) from inv.hok dd _ ed) with ⟨mA, ns, rel⟩
  have inst : ∀ od, t.heap.get? dd = some od → PySem.W.InstAt t.heap a oe C (some od) := fun od ho => by
    refine ⟨xo_at inv.hok ea, z.1, ?_, by rw [z.2]; exact ho⟩
    unfold PySem.W.notCls
    rw [ev] <;> rfl
  rcases lookIn_ns ns with ⟨od, ho, hl⟩
  rcases RelO.some_of (v := v) (o := mA n) (l ▸ rel n) with ⟨u, hu, ru⟩
  exact HandSPX.exc_get inv.kIn (inst od ho) xf.ga xf.gg xf.exC (PySem.W.findObj_own xf.hdC no rfl ((hl n).trans (by rw [hu]))) (handed_of ru) ⟨v, G, inv.tok _, ru, q⟩
theorem pe_xe {X : Cx} {e : Expr} {te : TE} {pos : Pos} {n : Str} (he : PE X e te) (hb : attributeBase e n X.env (eval e X.env) = eval e X.env := by rfl) : PE X (.Attribute e n pos) (tXe X.K te n) := by
  constructor
  intro pins s σ H Q inv want
  refine attr_of hb (thn (he.run pins s σ H _ inv want) ?_)
  rintro u t ⟨_, G, J, ru, a, C, dd, oe, fs, v, rfl, ea, z, fld, ed, xf, no, l, q⟩
  rw [show u = Value.ref a from ru]
  exact xo_get J ea z fld ed xf no l q
def attrD (f : Str) : D → Option RV
  | .obj _ fs => (fs.lookup f).map RV.im
  | .exc _ fs => (fs.lookup f).map RV.im
  | _ => none
theorem repF_lookup {M : Mx} {F : Hp} {f : Str} : ∀ {vs : List (Str × V)} {fs : List (Str × D)} {d : D}, RepF M F vs fs → fs.lookup f = some d → ∃ v, vs.lookup f = some v ∧ Rep M F v d
  | _, _, _, .nil, h => by cases h
  | _, _, d, @RepF.cons _ _ g v vs d0 fs r t, h => by
    rw [List.lookup_cons] at h ⊢
    cases e : f == g with
    | true =>
      rw [e] at h
      cases h
      exact ⟨v, rfl, r⟩
    | false =>
      rw [e] at h
      exact repF_lookup t h
theorem lookup_mem {f : Str} {β : Type} : ∀ {fs : List (Str × β)} {d : β}, fs.lookup f = some d → f ∈ fs.map (·.1)
  | [], _, h => by cases h
  | (g, d0) :: fs, d, h => by
    rw [List.lookup_cons] at h
    split at h
    · rename_i e
      rw [eq_of_beq e]
      exact List.mem_cons_self
    · exact List.mem_cons_of_mem _ (lookup_mem h)
section
variable {P : Program} {w : World} {base : Heap} {N : List Str} {sc : Scope} {j : Nat}
variable {M : Mx} {W : WX} {X : Cx} {F H F' H' F1 H1 F2 H2 H0 : Hp} {σ σ1 : L2.St} {ρ ρ1 ρ2 : SE}
variable {a b c e : Expr} {ma mb m : DM RV} {es : List Expr} {pos p p' : Pos} {x f : Str}
theorem de_attr (hK : M.K = X.K) (ha : DE X M W a ma) (hb : attributeBase a f X.env (eval a X.env) = eval a X.env := by rfl) : DE X M W (.Attribute a f pos) (dOp1 (attrD f) ma) := by
  obtain ⟨ta, pa, qa⟩ := ha
  have p1 := pe_fld (pos := pos) pa hb
  have p2 := pe_xe (pos := pos) pa hb
  refine ⟨fun σ H Q => tFld X.K ta f σ H Q ∨ tXe X.K ta f σ H Q, ⟨fun pins s σ H Q I h => ?_⟩, fun σ H F ρ Q sm h => ?_⟩
  · rcases h with h | h
    · exact p1.run pins s σ H Q I h
    · exact p2.run pins s σ H Q I h
  · unfold dOp1 at h
    have qa := fun Q => qa σ H F ρ Q sm
    cases e1 : ma ρ with
    | bad =>
      rw [e1] at h
      exact h.elim
    | ex x ρ1 =>
      rw [e1] at h qa
      exact .inl (qa _ h)
    | ok r ρ1 =>
      rw [e1] at h qa
      have h : Post M W σ ρ F H (ofO ((look ρ1 r).bind (attrD f)) ρ1) Q := h
      cases e2 : look ρ1 r with
      | none =>
        rw [e2] at h
        exact h.elim
      | some d =>
        rw [e2] at h
        have h : Post M W σ ρ F H (ofO (attrD f d) ρ1) Q := h
        cases d with
        | obj c fs =>
          refine .inl (qa _ fun F1 H1 v st1 sm1 ok1 => ?_)
          obtain ⟨rv, e3, k⟩ := Post.fin' h st1 sm1
          have e3 : (fs.lookup f).map RV.im = some rv := e3
          obtain ⟨d1, e4, e5⟩ := map_some e3
          have vw := ok1.view0 sm1 e2
          obtain ⟨ad, dx, vs, ev, h1, h2, h3, _⟩ := vw
          obtain ⟨v1, e6, r1⟩ := repF_lookup h2 e4
          refine ⟨_, _, _, _, v1, ev, h1, by rw [← hK]; exact h3.1, by rw [← hK]; exact h3.2 f (lookup_mem e4), e6, ?_⟩
          subst e5
          exact k _ _ _ (Alc.refl sm1.sub) r1
        | exc c fs =>
          refine .inr (qa _ fun F1 H1 v st1 sm1 ok1 => ?_)
          obtain ⟨rv, e3, k⟩ := Post.fin' h st1 sm1
          have e3 : (fs.lookup f).map RV.im = some rv := e3
          obtain ⟨d1, e4, e5⟩ := map_some e3
          have vw := ok1.view0 sm1 e2
          cases vw with
          | exc h1 h2 h3 h4 h5 h6 =>
            obtain ⟨v1, e6, r1⟩ := repF_lookup h5 e4
            refine ⟨_, _, _, _, _, v1, rfl, sm1.sub.go _ _ h1, h2, h3, sm1.sub.go _ _ h4, by rw [← hK]; exact h6.1, by rw [← hK]; exact h6.2 f (lookup_mem e4), e6, ?_⟩
            subst e5
            exact k _ _ _ (Alc.refl sm1.sub) r1
        | _ => exact h.elim
end
theorem hok_put {P : Program} {w : World} {H : Hp} {h : Heap} {a : Addr} {oe : Obj} (hok : HOk P w H h) (n : H a = none) (e : h.get? a = some oe) : HOk P w (upd H a (xo a oe)) h := fun b o z => by
  by_cases hb : b = a
  · subst hb
    rw [upd_same] at z
    cases z
    exact xo_ok e
  · rw [upd_ne hb] at z
    exact (hok b o z).stay (fun c v _ y => y) (fun c hc => by rw [upd_ne (ne_of_none hc n)]; exact hc) (fun c xs hc => by rw [upd_ne (ne_of_none hc n)]; exact hc)
theorem xo_own {a x : Addr} {oe : Obj} : xo a oe ≠ .own x := fun z => by
  have z' : HO.ext _ = HO.own x := z
  cases z'
theorem xo_tup {a : Addr} {oe : Obj} {xs : List V} : xo a oe ≠ .tup xs := fun z => by
  have z' : HO.ext _ = HO.tup xs := z
  cases z'
theorem hok_del {P : Program} {w : World} {H : Hp} {h : Heap} {a : Addr} {oe : Obj} (hok : HOk P w H h) (e : H a = some (xo a oe)) : HOk P w (del H a) h := fun b o z => by
  have hba : b ≠ a := fun y => by
    rw [y, del_same] at z
    cases z
  rw [del_ne hba] at z
  exact (hok b o z).stay (fun c v _ y => y) (fun c hc => by rw [del_ne (at_ne e hc xo_own)]; exact hc) (fun c xs hc => by rw [del_ne (at_ne e hc xo_tup)]; exact hc)
structure FnQ (P : Program) (w : World) (K : PySem.W.Frag) (mg : Str → Option Value) (base : Heap) (k : Nat) (f : Addr) (fd : FuncData) (ps : List Str) (sp : Sp) : Prop where
  len : ∀ vs H Q E, sp vs H Q E → vs.length = ps.length
  go : ∀ (A : Around) (outer : List Env) (s : Shared) (H : Hp) (args : Args) (us : List Value) (vs : List V) (Q : VK) (E : XK), L2H.RoomH k A → Env0 P w K mg base A outer s H → BindsTo s fd args (ps.zip us) → Vals vs us → sp vs H Q E →
    codeAny (model P w) A (.call (.ref f) args) (CR (L2.CX P w) outer P w H s Q E) s
theorem fn_DQ {M : Mx} {P : Program} {w : World} {base : Heap} {x qual : Str} {st : Stmt} {f : Addr} {fd : FuncData} {N ps : List Str} {k : Nat} {mb : DM Fl} (Fu : Fun M.K x qual st f fd) (S : FnScope N ps (defScope st))
    (hb : ∀ (cdv : Value) (A : Around) (outer : List Env) (s : Shared) (H : Hp) (E : XK) (p : Addr × Obj), L2H.RoomH k (A.deeper (envOfC qual (defScope st) s.heap.objs.size f cdv)) →
      DSs (L2H.cxH (L2.CX P w) P w M.K M.mg base N qual (defScope st) f cdv A outer s H E p) M (fun cls d _ H' => E cls d H') (defBody st) mb) :
    FnQ P w M.K M.mg base (k + 1) f fd ps (spD M ps.length (mFn N.length mb)) := by
  have hN : ps.length ≤ N.length := by
    have := congrArg List.length S.pre
    rw [List.length_take] at this
    omega
  have hlen : ∀ vs H Q E, spD M ps.length (mFn N.length mb) vs H Q E → vs.length = ps.length := fun vs H Q E h => by
    obtain ⟨F, svs, h1, _⟩ := h
    exact h1
  obtain ⟨oc, od, kV, doc, pm, an, cdv, ct, osl, efd, lk, hcd⟩ := Fu.ex
  subst efd
  refine ⟨hlen, fun A outer s H args us vs Q E hr e0 bd r hsp => ?_⟩
  have inK : M.K.In s.heap := e0.mod.kin.keeps fun b o q => (e0.bs b o q).1
  have nolim : s.heap.NoLimit := e0.mod.nolimit.keeps fun b o q => (e0.bs b o q).1
  have par : ∀ y ∈ ps.zip us, (defScope st).names.lookup y.1 = some .local ∨ ((defScope st).names.lookup y.1 = some .cell ∧ ((cellsFrom (s.heap.objs.size + 1) (defScope st).names []).lookup y.1).isSome = true) := fun ⟨n, v⟩ hy =>
    (S.par n (List.of_mem_zip hy).1).elim .inl fun q => .inr ⟨q, PySem.W.cellsFrom_some _ _ _ (.inl q)⟩
  have hob := e0.mod.kin _ _ lk
  have pin : L2H.PinOk outer H s (f, ⟨oc, od, .func (PySem.W.fnOf x qual (defArgs st) (defBody st) (defScope st) .none kV doc pm an cdv ct), osl⟩) := ⟨inK _ _ lk, (e0.bs _ _ hob).2, (fun hm => by
    have := (e0.funs.mem hm).1
    rw [hob] at this
    cases this), fun v z => by cases z⟩
  refine codeAny_call_function hr.depth (inK _ _ lk) rfl S.co S.gen rfl (PySem.W.codeRec_of inK hcd) (bd _ _ _ _ ?_)
  refine wpAny_newFunctionEnv_cells S.kind par fun env he s1 ic => ?_
  subst he
  refine ⟨nolim.keeps ic.toInCall.keep, codeAny_func ?_⟩
  obtain ⟨t, pt, ht⟩ := fn_body hN (hb cdv A outer s H E _ (hr.deeper _)) hsp
  have I := L2H.inv_startH (CX := L2.CX P w) (E := E) (qual := qual) (cd := cdv) S pin e0 (hlen _ _ _ _ hsp) r ic
  refine wpAny_mono (pt.run [] s1 (L2.start N vs) H _ I ht) (fun fl s' hs => ?_) fun e s' hs => hs
  match fl, hs with
  | .ret u, ⟨v, σ', H', J, rv, q⟩ => exact ⟨v, H', J.os, J.bare, J.base, J.hok, rv, q⟩
  | .next, ⟨σ', H', J, q⟩ => exact ⟨V.non, H', J.os, J.bare, J.base, J.hok, rfl, q⟩
  | .brk, ⟨_, _, _, q⟩ => exact False.elim q
  | .cont, ⟨_, _, _, q⟩ => exact False.elim q
def tExc (sp : Sp) (i : Nat) (a : Addr) (oe : Obj) : TE := fun σ H Q => σ[i]? = some (some (.ref a)) ∧ sp [.ref a] (upd H a (xo a oe)) (fun v H2 => H2 a = some (xo a oe) ∧ Q v (del H2 a)) fun _ _ _ => False
section
variable {X : Cx} {a : Addr} {oe : Obj} {pn : List (Addr × Obj)} {k i : Nat} {f : Addr} {fd : FuncData} {ps : List Str} {sp : Sp} {x n : Str} {p p1 pos : Pos}
theorem pe_exc (F : FnQ X.prog X.w X.K X.mg X.base k f fd ps sp) (hr : Room k X.A) (hg : Gl X x) (hm : X.mg x = some (.ref f)) (hk : PySem.W.keepIn X.K (.ref f) = true) (hb : Binds X.K fd ps []) (nb : X.base.get? a = none)
    (hN : X.N[i]? = some n) (hv : Vis X.env.scope n) (hdb : (x == ("__debug__" : Str)) = false) (hd : (n == ("__debug__" : Str)) = false) (hcd : (n == ("__classdict__" : Str)) = false) :
    PE (X.suite a ((a, oe) :: pn)) (.Call (.Name x p) [.Name n p1] [] pos) (tExc sp i a oe) := by
  refine ⟨fun pins s σ H Q I h => ?_⟩
  obtain ⟨hi, h⟩ := h
  have hr' : L2H.RoomH k (X.suite a ((a, oe) :: pn)).A := ⟨hr.dp, hr.un⟩
  refine wpAny_Call_Name_kw (ld_glob (X := X.suite a ((a, oe) :: pn)) I hg hm ?_ hdb)
  have pv : PE (X.suite a ((a, oe) :: pn)) (.Name n p1) (tVar i) := pe_var hN hv hd hcd
  refine PySem.W.callWith_K (h₀ := X.base) I.ok.mod.kin hk (thn ((pa_cons pv pa_nil (by rfl)).run pos pins s σ H (fun vs H1 => vs = [.ref a] ∧ H1 = H) I ⟨.ref a, hi, rfl, rfl⟩) fun us s1 ⟨vs, H1, I1, r, e1, e2⟩ => ⟨I1.kIn, ?_⟩) (by rfl) (by rfl)
  subst e1
  rw [e2] at I1
  obtain ⟨hat, na, nL, nF, _⟩ := I1.pin (a, oe) (List.mem_append_left _ List.mem_cons_self)
  have e0 := I1.env0
  have nst : a ∉ frs X.stack := fun z => (List.mem_cons.mp (I1.stkSub _ z)).elim (fun z => nL z) (fun z => nF z)
  have e0' : Env0 X.prog X.w X.K X.mg X.base (X.suite a ((a, oe) :: pn)).A X.stack s1 (upd H a (xo a oe)) :=
    ⟨e0.frames, e0.mod, fun b o q => ⟨(e0.bs b o q).1, by
      rw [upd_ne]
      · exact (e0.bs b o q).2
      · intro z
        rw [z, nb] at q
        cases q⟩, e0.bsz, e0.funs, fun b hb => by
      rw [upd_ne]
      · exact e0.frf b hb
      · intro z
        rw [z] at hb
        exact nst hb, hok_put e0.hok na hat, e0.bare⟩
  have hl : us.length = ps.length := by rw [← r.length]; exact F.len _ _ _ _ h
  refine wpAny_call (codeAny_mono (F.go _ X.stack s1 (upd H a (xo a oe)) ⟨us, []⟩ us [.ref a] _ _ hr' e0' (by simpa using hb s1 us I1.kIn (by simpa using hl)) r h) fun rr s' hq => ?_)
  cases rr with
  | error er =>
    obtain ⟨_, _, _, _, _, _, _, _, _, _, _, _, z⟩ := hq
    exact z.elim
  | ok fl =>
    cases fl with
    | next => exact False.elim hq
    | brk => exact False.elim hq
    | cont => exact False.elim hq
    | ret u =>
      obtain ⟨v, H2, os, bare, un, hok, rv, ea, q⟩ := hq
      have hat2 := xo_at hok ea
      have U : Un (frs X.stack) [] H (del H2 a) s1.heap s'.heap := {
        keep := fun b o z n hf hx => by
          by_cases hb : b = a
          · subst hb
            rw [hat] at z
            cases z
            exact hat2
          · exact un.keep b o z (by rw [upd_ne hb]; exact n) hf hx
        slot := fun b o z n hf hx => un.slot b o z (by
          rw [upd_ne]
          · exact n
          · intro y
            rw [y] at hf
            exact nst hf) hf hx
        free := fun b o z n hx => by
          by_cases hb : b = a
          · rw [hb]
            exact del_same
          · rw [del_ne hb]
            exact un.free b o z (by rw [upd_ne hb]; exact n) hx
        there := fun b o z hx => un.there b o z hx
        tups := fun b xs z => by
          have hb := ne_of_none z na
          rw [del_ne hb]
          exact un.tups b xs (by rw [upd_ne hb]; exact z)
        frzs := fun b o v z => by
          have hb := ne_of_none z na
          rw [del_ne hb]
          exact un.frzs b o v (by rw [upd_ne hb]; exact z)
        tbls := fun b ps z => by
          have hb := ne_of_none z na
          rw [del_ne hb]
          exact un.tbls b ps (by rw [upd_ne hb]; exact z) }
      exact ⟨v, _, I1.call' (ch := []) os U (hok_del hok ea) bare (fun b z => absurd z (by simp)), rv, q⟩
end
end DL

/- part -/
set_option Elab.async false
set_option linter.all false
set_option maxRecDepth 100000
set_option maxHeartbeats 1000000
namespace DL
open PySem PySem.Spec PyProof.Rows L2
structure CxQ (M : Mx) (N : List Str) (sc : Scope) (X : Cx) : Prop where
  hK : M.K = X.K
  hN : X.N = N
  hs : X.env.scope = sc
  u64 : X.A.units + 64 < cLine
  u65 : X.A.units + 65 < cLine
theorem dq_v {M : Mx} {N : List Str} {sc : Scope} {X : Cx} {W : WX} {x : Str} {p : Pos} (C : CxQ M N sc X) (i : Nat) (h : NameOk sc x) (hi : N[i]? = some x := by rfl) : DE X M W (.Name x p) (dVar i) := de_var i (by rw [C.hN]; exact hi) (by rw [C.hs]; exact h.vis) h.nd h.nc
theorem cxQ_of {M : Mx} {P : Program} {w : World} {base : Heap} {N : List Str} {qual : Str} {sc : Scope} {f : Addr} {cd : Value} {A : Around} {outer : List Env} {s : Shared} {H : Hp} {E : XK} {p : Addr × Obj} {k : Nat} (hr : L2H.RoomH k (A.deeper (envOfC qual sc s.heap.objs.size f cd))) :
    CxQ M N sc (L2H.cxH (L2.CX P w) P w M.K M.mg base N qual sc f cd A outer s H E p) :=
  ⟨rfl, rfl, rfl, by have := hr.un; show (A.deeper (envOfC qual sc s.heap.objs.size f cd)).units + 64 < cLine; omega, by have := hr.un; show (A.deeper (envOfC qual sc s.heap.objs.size f cd)).units + 65 < cLine; omega⟩
def ExTell (K : PySem.W.Frag) (spF : Sp) (cs : List Value) (cls : Value) (d : Option Addr) (H : Hp) (Q : VK) : Prop :=
  PySem.W.exmAny K cls cs = some true ∧ ∃ (C dd : Addr) (fs : List (Str × V)) (v : V), cls = .ref C ∧ d = some dd ∧ XfC K C ∧ PySem.W.findIn K (.ref C) "tag" = some none ∧ H dd = some (.xd fs) ∧ fs.lookup ("tag" : Str) = some v ∧
    ∀ (a : Addr) (oe : Obj), H a = none → Zc cls d oe → (∃ vs, oe.data = .fields vs) → spF [.ref a] (upd H a (xo a oe)) (fun v2 H2 => H2 a = some (xo a oe) ∧ [v, v2].length ≤ sizeLine ∧ ∀ p, del H2 a p = none → Q (.ref p) (upd (del H2 a) p (.tup [v, v2]))) fun _ _ _ => False
def TTout (K : PySem.W.Frag) (spF : Sp) (cs : List Value) : (XK → Hp → VK → Prop) → Hp → VK → Prop := fun tl H Q =>
  tl (fun cls d H' => ExTell K spF cs cls d H' Q) H fun v H' => [V.str "", v].length ≤ sizeLine ∧ ∀ p, H' p = none → Q (.ref p) (upd H' p (.tup [.str "", v]))
theorem out_gives {X : Cx} {k : Nat} {g fF e1 e2 e3 : Addr} {fdF : FuncData} {spF : Sp} {sg : Scope} {cdg : Value} {q x x1 x2 x3 fn ask err : Str} {p1 p2 p3 p4 p5 p6 p7 p8 p9 p10 p11 p12 p13 p14 p15 p16 p17 : Pos} {j k1 k2 k3 : Nat} {N : List Str} {qF : List Str}
    (eN : N = [ask, err]) (hN : N.Nodup) (hk : sg.kind = .function) (hv0 : Vis sg ask) (herr : sg.names.lookup err = some .local) (hd0 : (err == ("__debug__" : Str)) = false) (hc0 : (err == ("__classdict__" : Str)) = false)
    (g1 : sg.names.lookup x1 = some .globalImplicit) (g2 : sg.names.lookup x2 = some .globalImplicit) (g3 : sg.names.lookup x3 = some .globalImplicit) (g4 : sg.names.lookup fn = some .globalImplicit)
    (d1 : (x1 == ("__debug__" : Str)) = false) (d2 : (x2 == ("__debug__" : Str)) = false) (d3 : (x3 == ("__debug__" : Str)) = false) (d4 : (fn == ("__debug__" : Str)) = false)
    (m1 : X.mg x1 = some (.ref e1)) (m2 : X.mg x2 = some (.ref e2)) (m3 : X.mg x3 = some (.ref e3)) (m4 : X.mg fn = some (.ref fF))
    (FF : FnQ X.prog X.w X.K X.mg X.base k fF fdF qF spF) (kF : PySem.W.keepIn X.K (.ref fF) = true) (bF : Binds X.K fdF qF []) (hr : Room (k + 1) X.A) :
    LamX.GivesTo X N x sg g cdg [.Try [.Return (some (.Tuple [.Constant (.str "") j p1, .Call (.Name ask p2) [] [] p3] k1 p4)) p5]
      [.ExceptHandler (some (.Tuple [.Name x1 p6, .Name x2 p7, .Name x3 p8] k2 p9)) (some err) [.Return (some (.Tuple [.Attribute (.Name err p10) "tag" p11, .Call (.Name fn p12) [.Name err p13] [] p14] k3 p15)) p16] p17] [] [] pos] ask q (TTout X.K spF [.ref e1, .ref e2, .ref e3]) := by
  intro f c' s H Q tl act hc h
  subst eN
  have hr' : Room k (X.A.deeper (envOfC x sg s.heap.objs.size g cdg)) := hr.deeper _
  refine ⟨_, pss_one (ps_try_as3 (X := (cxOf C8.CX0 X.prog X.w X.K X.mg X.base [ask, err] x sg g cdg X.A X.stack s H C8.E0).nox) (i := 1) (n := err) (c1 := .ref e1) (c2 := .ref e2) (c3 := .ref e3)
      (tb := fun W D σ H => ∃ Ech : XK, (∀ cls d σ' H', Ech cls d H' → W cls d σ' H') ∧ σ[0]? = some (some (.ref f)) ∧ H c' = some (LamX.CodeO c' q) ∧ tl Ech H fun v H' => [V.str "", v].length ≤ sizeLine ∧ ∀ p, H' p = none → D.rt (.ref p) (upd H' p (.tup [.str "", v])))
      (ts := fun a cls d D σ H => ∃ (σ0 : L2.St) (C dd : Addr) (fs : List (Str × V)) (v : V), σ = σ0.set 1 (some (.ref a)) ∧ cls = .ref C ∧ d = some dd ∧ XfC X.K C ∧ PySem.W.findIn X.K (.ref C) "tag" = some none ∧ H dd = some (.xd fs) ∧ fs.lookup ("tag" : Str) = some v ∧
        ∀ oe : Obj, Zc cls d oe → (∃ vs, oe.data = .fields vs) → spF [.ref a] (upd H a (xo a oe)) (fun v2 H2 => H2 a = some (xo a oe) ∧ [v, v2].length ≤ sizeLine ∧ ∀ p, del H2 a p = none → D.rt (.ref p) (upd (del H2 a) p (.tup [v, v2]))) fun _ _ _ => False)
      rfl rfl hN rfl herr ⟨g1, d1, .inl m1⟩ ⟨g2, d2, .inl m2⟩ ⟨g3, d3, .inl m3⟩ (fun W pn xe tk _ => ?_) (fun a oe cls d pn hz hf nb => ?_)), ?_⟩
  · refine ⟨fun pins s' σ H' D I h' => ?_⟩
    obtain ⟨Ech, hW, h1, h2, h3⟩ := h'
    have hp := act W pn xe Ech p2 p3 tk hW
    exact (pss_one (ps_ret (pos := p5) (pe_tup (x1 := k1) (pos := p4) (pa_cons (pe_str (x := "") (j := j) (pos := p1)) (pa_cons hp pa_nil))))).run pins s' σ H' D I ⟨h1, h2, h3⟩
  · refine ⟨fun pins s' σ H' D I h' => ?_⟩
    obtain ⟨σ0, C, dd, fs, v, es, ec, ed, T, hno, e1, l, kk⟩ := h'
    have hlen : σ.length = 2 := I.len
    have hi : σ[1]? = some (some (.ref a)) := by
      rw [es] at hlen ⊢
      rw [List.length_set] at hlen
      rw [List.getElem?_set_self (by omega)]
    have pv : PE (((cxOf C8.CX0 X.prog X.w X.K X.mg X.base [ask, err] x sg g cdg X.A X.stack s H C8.E0).nox).suite a ((a, oe) :: pn)) (.Name err p10) (tVar 1) := pe_var rfl (.inl herr) hd0 hc0
    have pc := pe_exc (X := (cxOf C8.CX0 X.prog X.w X.K X.mg X.base [ask, err] x sg g cdg X.A X.stack s H C8.E0).nox) (oe := oe) (pn := pn) (i := 1) (x := fn) (n := err) (p := p12) (p1 := p13) (pos := p14) FF hr' g4 m4 kF bF nb rfl (.inl herr) d4 hd0 hc0
    have px := pe_xf (X := (cxOf C8.CX0 X.prog X.w X.K X.mg X.base [ask, err] x sg g cdg X.A X.stack s H C8.E0).nox) (a := a) (pn := pn) (pos := p11) (n := "tag") T hno hz hf pv
    exact (pss_one (ps_ret (pos := p16) (pe_tup (x1 := k3) (pos := p15) (pa_cons px (pa_cons pc pa_nil))))).run pins s' σ H' D I ⟨.ref a, hi, rfl, ec, dd, fs, v, ed, e1, l, hi, kk oe hz hf⟩
  · refine ⟨fun cls d H' => ExTell X.K spF [.ref e1, .ref e2, .ref e3] cls d H' Q, fun cls d σ' H' ⟨t1, C, dd, fs, v, ec, ed, T, hno, e1, l, kk⟩ => ⟨t1, fun a na => ⟨σ', C, dd, fs, v, rfl, ec, ed, T, hno, e1, l, fun oe hz hf => kk a oe na hz hf⟩⟩, rfl, hc, h⟩
end DL

/- part -/
set_option Elab.async false
set_option linter.all false
set_option maxRecDepth 100000
set_option maxHeartbeats 1000000
namespace DL
open PySem PySem.Spec PyProof.Rows L2
def outEx (mF : SE → R RV) (ok : Str → Bool) (e : Exc) (ρ : SE) : R RV := if ok e.cls = true then match e.fs.lookup ("tag" : Str), mF [.im (.exc e.cls e.fs)] with
  | some (.str t), .ok (.im d) _ => if flat d = true then .ok (.im (.tup [.str t, d])) ρ else .bad
  | _, _ => .bad else .bad
def dOut (mF : SE → R RV) (ok : Str → Bool) (mb : DM RV) : DM RV := fun ρ => match mb ρ with
  | .bad => .bad
  | .ok r ρ1 => (fz r ρ1).bind fun d ρ2 => .ok (.im (.tup [.str "", d])) ρ2
  | .ex e ρ1 => outEx mF ok e ρ1
structure CxL (P : Program) (w : World) (base : Heap) (M : Mx) (N : List Str) (sc : Scope) (j : Nat) (X : Cx) (W : WX) (c Pt : Addr) : Prop extends CxF P w base M N sc j X W where
  code : X.env.code = .ref c
  tb : LamX.TabB X.base X.mg c Pt
  mT : (Pt, X.env.qual ++ "<lambda>") ∈ M.T
  uT : ∀ p ∈ M.T, p.1 = Pt → p.2 = X.env.qual ++ "<lambda>"
structure OutAt (M : Mx) (st stF : Stmt) (ok : Str → Bool) (mF : SE → R RV) where
  dO : DefAt M "_law_outcome" st ["_law_ask"]
  dF : DefAt M "_law_field" stF ["_law_e"]
  e1 : Addr
  e2 : Addr
  e3 : Addr
  m1 : M.mg "EarlyError" = some (.ref e1)
  m2 : M.mg "UndefinedName" = some (.ref e2)
  m3 : M.mg "EmptyHistory" = some (.ref e3)
  cau : ∀ c, ok c = true → PySem.W.exmAny M.K (.ref (M.ca c)) [.ref e1, .ref e2, .ref e3] = some true
  fq : ∀ (P : Program) (w : World) (base : Heap), FnQ P w M.K M.mg base 1 dF.f dF.fd ["_law_e"] (spD M 1 mF)
structure OutSc (so : Scope) : Prop where
  Sg : FnScope ["_law_ask", "_law_e"] ["_law_ask"] so
  va : Vis so "_law_ask"
  le : so.names.lookup ("_law_e" : Str) = some .local
  g1 : so.names.lookup ("EarlyError" : Str) = some .globalImplicit
  g2 : so.names.lookup ("UndefinedName" : Str) = some .globalImplicit
  g3 : so.names.lookup ("EmptyHistory" : Str) = some .globalImplicit
  g4 : so.names.lookup ("_law_field" : Str) = some .globalImplicit
theorem heap_all (n : Nat) (o : Obj) (h : o.data ≠ .freed) : ∃ hh : Heap, ∀ b : Nat, b < n → hh.get? b = some o := by
  refine ⟨{ objs := Array.replicate n o }, fun b hb => ?_⟩
  unfold Heap.get?
  have e : (Array.replicate n o)[b]? = some o := by
    rw [Array.getElem?_replicate, if_pos hb]
  show (match (Array.replicate n o)[b]? with
    | some ⟨_, _, .freed, _⟩ => none
    | x => x) = some o
  rw [e]
  split
  · rename_i z
    cases z
    exact (h rfl).elim
  · rfl
theorem ne_xo_code {a c : Addr} {oe : Obj} {q : Str} : xo a oe ≠ LamX.CodeO c q := fun z => by
  have z1 : HO.ext (fun h => h.get? a = some oe) = HO.ext fun h => ∃ (oc : Obj) (vs : Array Value) (t : Tok), h.get? c = some oc ∧ oc.data = .fields vs ∧ vs[1]? = some (.str q t) := z
  injection z1 with z2
  have key : ∀ (k : Value) (t : Tok), oe = { cls := k, data := .fields #[.none, .str q t] } := fun k t => by
    obtain ⟨hh, hg⟩ := heap_all ((a : Nat) + (c : Nat) + 1) { cls := k, data := .fields #[.none, .str q t] } (by intro y; cases y)
    have h1 := congrFun z2 hh
    have h2 : hh.get? a = some oe := by
      rw [h1]
      exact ⟨_, _, _, hg c (Nat.lt_succ_of_le (Nat.le_add_left _ _)), rfl, rfl⟩
    rw [hg a (Nat.lt_succ_of_le (Nat.le_add_right _ _))] at h2
    exact (Option.some.inj h2).symm
  have tk : Tok := by
    exact default
  have k1 := key .none tk
  rw [key (.bool true) tk] at k1
  have := congrArg Obj.cls k1
  cases this
section
variable {P : Program} {w : World} {base : Heap} {N : List Str} {sc : Scope} {j : Nat}
variable {M : Mx} {W : WX} {X : Cx} {F H F' H' F1 H1 F2 H2 H0 : Hp} {σ σ1 : L2.St} {ρ ρ1 ρ2 : SE}
theorem SubF.fre (s : SubF F H) (t : NoTb F) {p : Addr} (h : Fre H p) : F p = none := by
  cases e : F p with
  | none => rfl
  | some o =>
    by_cases hb : ∃ n vs, o = bw n vs
    · obtain ⟨n, vs, rfl⟩ := hb
      exact (h.lst (s.bk p n vs e)).elim
    · exact (h.no (s.go p o e fun n vs z => hb ⟨n, vs, z⟩) fun ps z => t p ps (by rw [e, z])).elim
theorem xo_nb {a : Addr} {oe : Obj} : ∀ n vs, xo a oe ≠ bw n vs := fun n vs z => by
  have z' : HO.ext _ = bw n vs := z
  cases z'
theorem grow {H1 : Hp} (sm : Sim M F H σ ρ) (e : LamX.ExtN H H1) (t : LamX.Tabs M.T H1) : Stp F H σ ρ F H1 σ ρ ∧ Sim M F H1 σ ρ := by
  have lst : ∀ {b : Addr} {o : HO}, H b = some o → (∀ ps, o ≠ .tbl ps) → H1 b = some o := fun h n => e _ _ h n
  refine ⟨⟨Same.refl _, fun b o h _ nt => lst h nt, fun b h => .inl h, fun b o h => .inl h, fun b h o q => ?_, fun i ds h => ⟨rfl, ds, h⟩, fun i ds h => ⟨ds, h⟩⟩, ⟨⟨⟨fun b o h nb => lst (sm.sub.go b o h nb) fun ps z => ?_, fun b n vs h => lst (sm.sub.bk b n vs h) (fun ps z => by cases z)⟩, sm.ntb⟩, t, sm.len, sm.im, fun i io ds h => ?_, sm.inj⟩⟩
  · cases o with
    | tbl ps => exact ⟨ps, rfl⟩
    | _ => exact (h.no (lst q fun ps z => by cases z) fun ps z => by cases z).elim
  · subst z
    exact sm.ntb b ps h
  · obtain ⟨a, vs, e1, e2, e3, e4⟩ := sm.ow i io ds h
    exact ⟨a, vs, e1, lst e2 e4.nt, e3, e4⟩
end
end DL

/- part -/
set_option Elab.async false
set_option linter.all false
set_option maxRecDepth 100000
set_option maxHeartbeats 1000000
namespace DL
open PySem PySem.Spec PyProof.Rows L2
section
variable {P : Program} {w : World} {base : Heap} {N : List Str} {sc : Scope} {j : Nat}
variable {M : Mx} {W : WX} {X : Cx} {F H F' H' F1 H1 F2 H2 H0 : Hp} {σ σ1 : L2.St} {ρ ρ1 ρ2 : SE}
theorem xo_tbl {a : Addr} {oe : Obj} {ps : Array Value} : xo a oe ≠ .tbl ps := fun z => by
  have z' : HO.ext _ = HO.tbl ps := z
  cases z'
theorem tabs_del {T : List (Addr × Str)} {H Hz : Hp} {a : Addr} {oe : Obj} (t : LamX.Tabs T H) (e : H a = some (xo a oe)) (k : ∀ b o, b ≠ a → H b = some o → Hz b = some o) : LamX.Tabs T Hz := fun p hp => by
  obtain ⟨ps, h1, h2, h3⟩ := t p hp
  refine ⟨ps, k _ _ (at_ne e h1 xo_tbl) h1, h2, fun pos cv hc => ?_⟩
  obtain ⟨c, e1, e2⟩ := h3 pos cv hc
  exact ⟨c, e1, k _ _ (at_ne e e2 ne_xo_code) e2⟩
theorem tell_ok {mF : SE → R RV} {ok : Str → Bool} {cs : List Value} {cls : Value} {d : Option Addr} {e : Exc} {Q : VK} (cau : ∀ c, ok c = true → PySem.W.exmAny M.K (.ref (M.ca c)) cs = some true) (st : Stp F H σ ρ F' H' σ ρ1) (sm : Sim M F' H' σ ρ1) (x : ExcOk M F' H' cls d e)
    (h : Post M W σ ρ F H (outEx mF ok e ρ1) Q) : ExTell M.K (spD M 1 mF) cs cls d H' Q := by
  obtain ⟨c, fs⟩ := e
  obtain ⟨ec, dx, vs, ed, hdx, rf, xf, xn⟩ := x
  unfold outEx at h
  by_cases hok : ok c = true
  · rw [if_pos hok] at h
    split at h
    · rename_i t df ρf e1 e2
      by_cases hfl : flat df = true
      · rw [if_pos hfl] at h
        obtain ⟨v, l1, r1⟩ := repF_lookup rf e1
        refine ⟨by rw [ec]; exact cau c hok, _, dx, vs, v, ec, ed, xf, xn _ (lookup_mem e1), sm.sub.go _ _ hdx, l1, fun a oe na hz hf => ?_⟩
        rw [ec, ed] at hz
        have nF : F' a = none := sm.sub.free na
        have nd : dx ≠ a := ne_of_none (sm.sub.go _ _ hdx) na
        have supF : Same F' (upd F' a (xo a oe)) := same_upd nF
        have noOw : ∀ b, ¬ Own [some (V.ref a)] [SV.im (.exc c fs)] b := fun b ⟨i, ⟨io, ds, q⟩, _⟩ => by
          match i, q with
          | 0, q => cases q
        refine ⟨upd F' a (xo a oe), [.im (.exc c fs)], rfl, fun i sv q => ?_, ⟨⟨sm.sub.both xo_nb, sm.ntb.upd fun ps => xo_tbl⟩, sm.tabs.ext (same_upd na), rfl, fun i d' q => ?_, fun i io ds q => ?_, fun i l b o1 _ _ _ => ?_⟩, ?_⟩
        · match i, q with
          | 0, q =>
            cases q
            exact .inl ⟨_, rfl⟩
        · match i, q with
          | 0, q =>
            cases q
            refine ⟨_, rfl, .exc upd_same hz hf ?_ (rf.up supF) ⟨xf, xn⟩⟩
            rw [upd_ne nd]
            exact hdx
        · match i, q with
          | 0, q => cases q
        · obtain ⟨io, ds, q⟩ := o1
          match i, q with
          | 0, q => cases q
        · rw [e2]
          intro F3 H3 v2 st3 sm3 r3
          have r3 : Rep M F3 v2 df := r3
          have ea : H3 a = some (xo a oe) := sm3.sub.go _ _ (st3.same _ _ upd_same)
          refine ⟨ea, by show 2 ≤ sizeLine; decide, fun p hp => ?_⟩
          have keep : ∀ b o, H' b = some o → (∀ ps, o ≠ .tbl ps) → upd (del H3 a) p (.tup [v, v2]) b = some o := fun b o q nt => by
            have hba : b ≠ a := ne_of_none q na
            have q3 := st3.keep b o (by rw [upd_ne hba]; exact q) (noOw b) nt
            rw [upd_ne, del_ne hba]
            · exact q3
            · intro z
              rw [z] at q3 hba
              rw [del_ne hba, q3] at hp
              cases hp
          have freH : Fre H' p := fun o q => by
            cases o with
            | tbl ps => exact ⟨ps, rfl⟩
            | _ =>
              have z := keep p _ q fun ps z => by cases z
              rw [upd_same] at z
              first
                | (exfalso
                   have hpa : p ≠ a := ne_of_none q na
                   have q3 := st3.keep p _ (by rw [upd_ne hpa]; exact q) (noOw p) fun ps z => by cases z
                   rw [del_ne hpa, q3] at hp
                   cases hp)
          have nFp : F' p = none := sm.sub.fre sm.ntb freH
          have rep : Rep M (upd F' p (.tup [v, v2])) (.ref p) (.tup [.str t, df]) := by
            refine .tup (.inl (.inl upd_same)) (.cons (r1.up (same_upd nFp)) (.cons ?_ .nil))
            cases df <;> first
              | (cases hfl; done)
              | (cases r3; constructor)
          refine h (upd F' p (.tup [v, v2])) _ _ ⟨st.same.trans (same_upd nFp), fun b o q n nt => keep b o (st.keep b o q n nt) nt, fun b q => st.new b q, fun b o q => ?_, fun b q => st.dom b fun o q2 => ?_, st.io, st.noio⟩
            ⟨⟨⟨fun b o q nb => ?_, fun b n vs q => ?_⟩, sm.ntb.upd fun ps z => by cases z⟩, ?_, sm.len, fun i d' q => ?_, fun i io ds q => ?_, sm.inj⟩ rep
          · by_cases hb : b = p
            · rw [hb]
              exact .inr (.inr (st.dom p freH))
            · rw [upd_ne hb] at q
              exact st.newF b o q
          · cases o with
            | tbl ps => exact ⟨ps, rfl⟩
            | _ => exact (q.no (keep b _ q2 fun ps z => by cases z) fun ps z => by cases z).elim
          · by_cases hb : b = p
            · subst hb
              rw [upd_same] at q ⊢
              exact q
            · rw [upd_ne hb] at q
              exact keep b o (sm.sub.go b o q nb) fun ps z => sm.ntb b ps (by rw [q, z])
          · by_cases hb : b = p
            · subst hb
              rw [upd_same] at q
              cases q
            · rw [upd_ne hb] at q
              exact keep b _ (sm.sub.bk b n vs q) fun ps z => by cases z
          · refine tabs_del sm3.tabs ea fun b o hb q => ?_
            rw [upd_ne, del_ne hb]
            · exact q
            · intro z
              rw [z] at q hb
              rw [del_ne hb, q] at hp
              cases hp
          · obtain ⟨v', e3, r4⟩ := sm.im i d' q
            exact ⟨v', e3, r4.up (same_upd nFp)⟩
          · obtain ⟨b, ws, e3, q1, q2, q4⟩ := sm.ow i io ds q
            refine ⟨b, ws, e3, keep b _ q1 q4.nt, ?_, q4.up (same_upd nFp)⟩
            rw [upd_ne]
            · exact q2
            · intro z
              rw [z] at q1
              exact freH.no q1 q4.nt
      · rw [if_neg hfl] at h
        exact h.elim
    · exact h.elim
  · rw [if_neg hok] at h
    exact h.elim
end
end DL

/- part -/
set_option Elab.async false
set_option linter.all false
set_option maxRecDepth 100000
set_option maxHeartbeats 1000000
namespace DL
open PySem PySem.Spec PyProof.Rows L2
section
variable {P : Program} {w : World} {base : Heap} {N : List Str} {sc : Scope} {j : Nat}
variable {M : Mx} {W : WX} {X : Cx} {F H F' H' F1 H1 F2 H2 H0 : Hp} {σ σ1 : L2.St} {ρ ρ1 ρ2 : SE}
theorem q_out {mF : SE → R RV} {ok : Str → Bool} {cs : List Value} {mb : DM RV} (cau : ∀ c, ok c = true → PySem.W.exmAny M.K (.ref (M.ca c)) cs = some true) : ∀ σ H F ρ Q, Sim M F H σ ρ → Post M W σ ρ F H (dOut mF ok mb ρ) Q →
    LamX.tLam M.T (TTout M.K (spD M 1 mF) cs) (fun E => canE M (fun cls d _ H' => E cls d H') mb) σ H Q := fun σ H F ρ Q sm h => by
  refine ⟨sm.tabs, fun H1 eN T1 => ?_⟩
  obtain ⟨st1, sm1⟩ := grow sm eN T1
  refine ⟨F, ρ, sm1, ?_⟩
  unfold dOut at h
  cases e : mb ρ with
  | bad =>
    rw [e] at h
    exact h
  | ex x ρ1 =>
    rw [e] at h
    exact fun F' H' cls d st sm' x => tell_ok cau (st1.trans st) sm' x h
  | ok r ρ1 =>
    rw [e] at h
    intro F' H' v st sm' ok'
    have h : Post M W σ ρ F H ((fz r ρ1).bind fun d ρ2 => .ok (.im (.tup [.str "", d])) ρ2) Q := h
    cases e2 : fz r ρ1 with
    | bad =>
      rw [e2] at h
      exact h.elim
    | ex x ρ' => exact (fz_ex e2).elim
    | ok d ρ2 =>
      rw [e2] at h
      have st' := st1.trans st
      obtain ⟨F2, st2, sm2, r2, _⟩ := fz_ok (st1.trans st) (ok'.from st1.dom) sm' e2
      refine ⟨by show 2 ≤ sizeLine; decide, fun p hp => ?_⟩
      have al := Alc.newF' (o := HO.tup [V.str "", v]) sm2.sub hp
      exact h _ _ _ (st2.trans (al.stp _ _)) (sm2.alc al) (Rep.tup (.inl (.inl upd_same)) (.cons (.str "") (.cons (r2.up al.same) .nil)))
theorem de_out {st stF : Stmt} {ok : Str → Bool} {mF : SE → R RV} {c Pt : Addr} {k : Nat} {mb : DM RV} {params : Arguments} {body : Expr} {scope : Scope} {p lpos pos : Pos} {p1 p2 p3 p4 p5 p6 p7 p8 p9 p10 p11 p12 p13 p14 p15 p16 p17 p18 : Pos} {jj k1 k2 k3 : Nat}
    (C : CxL P w base M N sc j X W c Pt) (O : OutAt M st stF ok mF) (S : OutSc (defScope st)) (g : GlOk sc "_law_outcome") (hj : k + 2 ≤ j) (L : LamX.LamS sc scope)
    (hb : ∀ (Xl : Cx) (E : XK), CxD P w base M N scope k Xl (fun cls d _ H => E cls d H) → DE Xl M (fun cls d _ H => E cls d H) body mb)
    (hbody : defBody st = [.Try [.Return (some (.Tuple [.Constant (.str "") jj p1, .Call (.Name "_law_ask" p2) [] [] p3] k1 p4)) p5]
      [.ExceptHandler (some (.Tuple [.Name "EarlyError" p6, .Name "UndefinedName" p7, .Name "EmptyHistory" p8] k2 p9)) (some "_law_e") [.Return (some (.Tuple [.Attribute (.Name "_law_e" p10) "tag" p11, .Call (.Name "_law_field" p12) [.Name "_law_e" p13] [] p14] k3 p15)) p16] p17] [] [] p18] := by rfl)
    (hdef : defaultsOf params X.env = ([], []) := by rfl)
    (hbind : ∀ (q : Str) (cl : List (Str × Addr)) (pm cv ctv : Value), bindArgs (PySem.W.kla_fn "<lambda>" q params body scope cl pm cv ctv) ⟨[], []⟩ = pure [] := by intros; rfl) :
    DE X M W (.Call (.Name "_law_outcome" p) [.Lambda params body scope lpos] [] pos) (dOut mF ok mb) := by
  obtain ⟨dO, dF, e1, e2, e3, m1, m2, m3, cau, fq⟩ := O
  obtain ⟨fO, fdO, gO, kO, bO, uO⟩ := dO
  obtain ⟨fF, fdF, gF, kF, bF, uF⟩ := dF
  have CD := C.toCxF.toCxD
  have fq := fq X.prog X.w X.base
  have hP := CD.hP
  have hw := CD.hw
  have hB := CD.hB
  subst hP hw hB
  have hK := CD.hK
  have hM := CD.hM
  have hN := CD.hN
  have hs := CD.hs
  have Q := q_out (W := W) (mb := mb) (mF := mF) cau
  rw [hK] at kO bO uO kF bF uF fq Q
  rw [hM] at gO gF m1 m2 m3 fq
  obtain ⟨oc, od, kV, doc, pm, an, cdv, ct, osl, efd, lk, hcd⟩ := uO.ex
  subst efd
  have hr2 : Room (k + 2) X.A := CD.hr.mono hj
  refine ⟨_, LamX.pe_lamcall (Ng := ["_law_ask", "_law_e"]) (a := "_law_ask") (k := k) (T := M.T) (CD.glo g) gO kO lk hcd bO S.Sg rfl S.va ?_ C.tb C.code C.mT C.uT hr2 (by rw [hs]; exact L) hdef hbind (t := fun E => canE M (fun cls d _ H' => E cls d H') mb) (fun A outer s H E f c' hr3 => DE.can (hb _ E ?_)) g.nd (by decide) (by decide), Q⟩
  · rw [hbody]
    exact out_gives rfl S.Sg.nd S.Sg.kind S.va S.le (by decide) (by decide) S.g1 S.g2 S.g3 S.g4 (by decide) (by decide) (by decide) (by decide) m1 m2 m3 gF fq kF bF (hr2.mono (by omega))
  · exact ⟨rfl, rfl, rfl, hK, hM, hN, rfl, L.kind, CD.nd, rfl, hr3, takes_of rfl rfl rfl rfl⟩
end
end DL

/- part -/
set_option Elab.async false
set_option linter.all false
set_option maxRecDepth 100000
set_option maxHeartbeats 1000000
namespace DL
open PySem PySem.Spec PyProof.Rows L2
structure DefAtD (M : Mx) (x : Str) (st : Stmt) (ps : List Str) (dvs : List V) where
  f : Addr
  fd : FuncData
  g : M.mg x = some (.ref f)
  kp : PySem.W.keepIn M.K (.ref f) = true
  b : Binds M.K fd ps []
  bd : ∃ dus, Vals dvs dus ∧ Binds M.K fd ps dus
  fu : FunD M.K x x (defArgs st) (defBody st) (defScope st) dvs [] f fd
def DefAtD.cal {M : Mx} {P : Program} {w : World} {base : Heap} {j : Nat} {x : Str} {st : Stmt} {ps : List Str} {dvs : List V} {n : Nat} {mm : SE → R RV} (d : DefAtD M x st ps dvs) (ok : FnOk P w M.K M.mg base (L2.CX P w) j d.f d.fd ps (spD M n mm)) : Cal P w base M x j n mm := ⟨d.f, d.fd, ps, d.g, d.kp, d.b, ok⟩
def lamQ (x : Str) : Str := x ++ ".<locals>." ++ "<lambda>"
structure DefAtL (M : Mx) (x : Str) (st : Stmt) (ps : List Str) (c Pt : Addr) where
  d : DefAt M x st ps
  lk : ∃ (oc : Value) (od : Option Addr) (kV doc pm : Value) (an : Option Addr) (ct : Value) (osl : Array (Option Value)), d.fd = PySem.W.fnOf x x (defArgs st) (defBody st) (defScope st) .none kV doc pm an (.ref c) ct ∧ M.K.lookup d.f = some ⟨oc, od, .func d.fd, osl⟩ ∧ PySem.W.codeIn M.K (.ref c) x = true
  mT : (Pt, lamQ x) ∈ M.T
  uT : ∀ p ∈ M.T, p.1 = Pt → p.2 = lamQ x
theorem fn_DL {M : Mx} {P : Program} {w : World} {base : Heap} {x : Str} {st : Stmt} {N ps : List Str} {k : Nat} {mb : DM Fl} {c Pt : Addr} (Dx : DefAtL M x st ps c Pt) (S : FnScope N ps (defScope st))
    (hb : ∀ (A : Around) (outer : List Env) (s : Shared) (H : Hp) (E : XK), Room k (A.deeper (envOfC x (defScope st) s.heap.objs.size Dx.d.f (.ref c))) →
      DSs (cxOf (L2.CX P w) P w M.K M.mg base N x (defScope st) Dx.d.f (.ref c) A outer s H E) M (fun cls d _ H' => E cls d H') (defBody st) mb) :
    FnOk P w M.K M.mg base (L2.CX P w) (k + 1) Dx.d.f Dx.d.fd ps (spD M ps.length (mFn N.length mb)) := by
  have hN : ps.length ≤ N.length := by
    have := congrArg List.length S.pre
    rw [List.length_take] at this
    omega
  obtain ⟨oc, od, kV, doc, pm, an, ct, osl, efd, lk, hcd⟩ := Dx.lk
  rw [efd] at lk ⊢
  exact fn_of lk hcd S (fun vs H Q E h => by
    obtain ⟨F, svs, h1, _⟩ := h
    exact h1) fun A outer s H vs Q E hr h => fn_body hN (hb A outer s H E hr) h
theorem cxL_of {P : Program} {w : World} {base : Heap} {M : Mx} {N ps : List Str} {x : Str} {st : Stmt} {k : Nat} {c Pt : Addr} {A : Around} {outer : List Env} {s : Shared} {H : Hp} {E : XK} (Dx : DefAtL M x st ps c Pt) (S : FnScope N ps (defScope st)) (tb : LamX.TabB base M.mg c Pt) (hr : Room k (A.deeper (envOfC x (defScope st) s.heap.objs.size Dx.d.f (.ref c)))) :
    CxL P w base M N (defScope st) k (cxOf (L2.CX P w) P w M.K M.mg base N x (defScope st) Dx.d.f (.ref c) A outer s H E) (fun cls d _ H' => E cls d H') c Pt :=
  ⟨cxF_of S hr, rfl, tb, Dx.mT, Dx.uT⟩
theorem lawAt {l : PySem.W.OpenLaw} {w : World} {K : PySem.W.Frag} {mg : Str → Option Value} {fa c Pt : Addr} {h : Heap} {fd : FuncData} {k : Nat} (hT : h.get? Pt = some { cls := .none, data := .fields #[] }) (nT : K.lookup Pt = none) (C : PySem.W.CodeHd h c Pt)
    (hb : ∀ (s : Shared) (u : Value), BindsTo s fd ⟨[u], []⟩ [("_law_script", u)]) (F : ∀ base : Heap, K.In base → base.Ns mainGlobals mg → LamX.TabB base mg c Pt → FnOk l.prog w K mg base (L2.CX l.prog w) k fa fd ["_law_script"] (spLawC K [(Pt, lamQ "law")])) :
    LamX.LawAtS l w K (L2.CX l.prog w) k 63 "_law_script" mg fa h := by
  refine ⟨fd, [(c, Pt)], spLawC K [(Pt, lamQ "law")], fun p hp => ?_, fun p hp => ?_, fun p hp => ?_, hb, fun H a ns hl _ hH hS => ⟨⟨a, ns, rfl, hS, hl, fun _ => rfl⟩, fun p hp => ?_⟩, fun base h1 h2 h3 => F base h1 h2 (h3 _ List.mem_cons_self)⟩
  · rw [List.mem_singleton.mp hp]
    exact hT
  · rw [List.mem_singleton.mp hp]
    exact nT
  · rw [List.mem_singleton.mp hp]
    exact C
  · rw [List.mem_singleton.mp hp]
    exact hH _ List.mem_cons_self
theorem walkL {l : PySem.W.OpenLaw} {q : Program} {loose : List Str} {XP : (Str → Option Value) → Heap → Prop} {YP : World → Heap → Prop} {d : DefRec} {K : Params → PySem.W.Frag} {k : Nat} (hr : Room k callerA) (hn : l.most = some 63) (hdf : d.params.defaults = []) (hrec : ((recsOf q).any fun e => e.name == d.name) = true)
    (hY : ∀ (w : World) (h : Heap), YP w h → (K w.params).In h)
    (F : ∀ (w : World) (mg : Str → Option Value) (fa : Addr) (h : Heap), (K w.params).In h → h.Ns mainGlobals mg → mg d.name = some (.ref fa) → LamX.OwnTab (K w.params) fa h → LamX.LawAtS l w (K w.params) (L2.CX l.prog w) k 63 "_law_script" mg fa h) :
    PySem.W.WalkO q loose XP YP l.row.toRowW d [] (fun f vs => PySem.call f vs) :=
  LamX.walk_ofOwn (n := 63) (k := k) (x := "_law_script") (CX := fun w => L2.CX l.prog w) hn (by decide) hdf hr hrec hY (fun w mg fa h _ KX G hm own => F w mg fa h KX G hm own) fun _ _ _ _ _ ⟨_, _, _, _, _, _, _, _, _, _, _, _, z⟩ => z
end DL

/- part -/
set_option Elab.async false
set_option linter.all false
set_option maxRecDepth 100000
set_option maxHeartbeats 1000000
namespace DL
open PySem PySem.Spec PyProof.Rows L2
section
variable {M : Mx} {W : WX} {X : Cx} {e : Expr} {es : List Expr} {m : DM RV} {ms : List (DM RV)} {pos : Pos}
end
end DL

/- part -/
set_option Elab.async false
set_option linter.all false
set_option maxRecDepth 100000
set_option maxHeartbeats 1000000
namespace DL
open PySem PySem.Spec PyProof.Rows L2
def excAt {M : Mx} {c : Str} {ps : List Str} {mk : List V → List (Str × V)} (C : Addr) (hC : M.ca c = C) (fI : Addr) (fd : FuncData) (g : M.mg c = some (.ref C)) (oex : OexC M.K C) (iC : PySem.W.findIn M.K (.ref C) "__init__" = some (some (.ref fI))) (tI : PySem.W.typeIn M.K (.ref fI) = some (.type "function"))
    (tag : PySem.W.findIn M.K (.ref C) "tag" = some none) (fs : ∀ ws, ∀ f ∈ (mk ws).map (·.1), PySem.W.findIn M.K (.ref C) f = some none) (xf : XfC M.K C) (b : Binds M.K fd ps []) (ok : ∀ (P : Program) (w : World) (base : Heap), FnOk P w M.K M.mg base (L2.CX P w) 1 fI fd ps (spI M.K (ps.length - 1) mk)) : ExcAt M c ps mk := by
  subst hC
  exact ⟨fI, fd, g, oex, iC, tI, tag, fs, xf, b, ok⟩
end DL

/- part -/
set_option Elab.async false
set_option linter.all false
set_option maxRecDepth 100000
set_option maxHeartbeats 1000000
namespace DL
open PySem PySem.Spec PyProof.Rows L2
theorem exmOne_of {K : PySem.W.Frag} {cls : Value} {S : Addr} {b : Bool} (h1 : PySem.W.subIn K (.ref S) (.type "BaseException") = some true) (h2 : PySem.W.isClsIn K S = true) (h3 : PySem.W.typeIn K (.ref S) = some (.type "type")) (h4 : PySem.W.subIn K cls (.ref S) = some b) : PySem.W.exmOne K cls (.ref S) = some b := by
  have q2 : (PySem.W.clsIn K S).isSome = true := h2
  unfold PySem.W.exmOne
  rw [h1, if_pos (by rfl)]
  show (if ((PySem.W.clsIn K S).isSome && PySem.W.typeIn K (.ref S) == some (.type "type")) = true then PySem.W.subIn K cls (.ref S) else none) = some b
  rw [q2, h3, if_pos (by rfl), h4]
theorem exm3 {K : PySem.W.Frag} {cls c1 c2 c3 : Value} {b1 b2 b3 : Bool} (h1 : PySem.W.exmOne K cls c1 = some b1) (h2 : PySem.W.exmOne K cls c2 = some b2) (h3 : PySem.W.exmOne K cls c3 = some b3) (h : (b1 || (b2 || b3)) = true) : PySem.W.exmAny K cls [c1, c2, c3] = some true := by
  have e3 : PySem.W.exmAny K cls [c3] = some b3 := by
    unfold PySem.W.exmAny
    rw [h3]
    show some (b3 || false) = _
    rw [Bool.or_false]
  have e2 : PySem.W.exmAny K cls [c2, c3] = some (b2 || b3) := by
    unfold PySem.W.exmAny
    rw [h2, e3]
  unfold PySem.W.exmAny
  rw [h1, e2]
  show some (b1 || (b2 || b3)) = _
  rw [h]
end DL

/- part -/
set_option Elab.async false
set_option linter.all false
set_option maxRecDepth 100000
namespace DL
open PySem PySem.Spec PyProof.Rows L2
variable {X : Cx}
end DL

/- part -/
set_option Elab.async false
set_option linter.all false
set_option maxRecDepth 100000
set_option maxHeartbeats 1000000
namespace DL
open PySem PySem.Spec PyProof.Rows L2
def putD (f : Str) (d : D) : List (Str × D) → List (Str × D)
  | [] => [(f, d)]
  | (g, x) :: r => if g = f then (g, d) :: r else (g, x) :: putD f d r
section
variable {M : Mx} {F H : Hp}
theorem putD_keys {f g : Str} {d : D} : ∀ {fs : List (Str × D)}, g ∈ (putD f d fs).map (·.1) → g = f ∨ g ∈ fs.map (·.1)
  | [], h => by
    have h : g ∈ [f] := h
    exact .inl (List.mem_singleton.mp h)
  | (k, x) :: r, h => by
    unfold putD at h
    by_cases e : k = f
    · rw [if_pos e] at h
      exact .inr h
    · rw [if_neg e] at h
      rcases List.mem_cons.mp h with h | h
      · exact .inr (List.mem_cons.mpr (.inl h))
      · rcases putD_keys h with h | h
        · exact .inl h
        · exact .inr (List.mem_cons_of_mem _ h)
theorem ObOk.put {K : PySem.W.Frag} {C : Addr} {f : Str} {d : D} {fs : List (Str × D)} (h : ObOk K C (fs.map (·.1))) (n : NoAttr K C f) : ObOk K C ((putD f d fs).map (·.1)) := ⟨h.1, fun g hg => by
  rcases putD_keys hg with e | e
  · rw [e]
    exact n
  · exact h.2 g e⟩
end
theorem lookup_putF {f g : Str} {v : V} (h : f ≠ g) : ∀ vs : List (Str × V), (putF f v vs).lookup g = vs.lookup g
  | [] => by
    show List.lookup g [(f, v)] = none
    rw [List.lookup_cons, show (g == f) = false from beq_eq_false_iff_ne.mpr (Ne.symm h)]
    rfl
  | (k, x) :: r => by
    unfold putF
    by_cases e : k = f
    · rw [if_pos e, List.lookup_cons, List.lookup_cons, show (g == k) = false from beq_eq_false_iff_ne.mpr fun z => h (by rw [← e, z])]
    · rw [if_neg e, List.lookup_cons, List.lookup_cons, lookup_putF h r]
theorem NdF.put {F : Hp} {c f : Str} {v : V} {vs : List (Str × V)} (h : NdF F c vs) (hnd : c = "DigitSet" → f ≠ "digits") : NdF F c (putF f v vs) := fun z v q => by
  rw [lookup_putF (hnd z)] at q
  exact h z v q
structure MCal (P : Program) (w : World) (base : Heap) (M : Mx) (c m : Str) (k n : Nat) (mm : SE → R RV) where
  f : Addr
  fd : FuncData
  ps : List Str
  cl : Cls M.K (M.ca c)
  me : Meth M.K (M.ca c) m f
  b : Binds M.K fd ps []
  ok : FnOk P w M.K M.mg base (L2.CX P w) k f fd ps (spD M n mm)
structure ICal (P : Program) (w : World) (base : Heap) (M : Mx) (c : Str) (k n : Nat) (mm : SE → R RV) where
  f : Addr
  fd : FuncData
  ps : List Str
  g : M.mg c = some (.ref (M.ca c))
  cl : Cls M.K (M.ca c)
  mkr : Mk M.K (M.ca c) f
  b : Binds M.K fd ps []
  ok : FnOk P w M.K M.mg base (L2.CX P w) k f fd ps (spD M n mm)
section
variable {P : Program} {w : World} {base : Heap} {N : List Str} {sc : Scope} {j : Nat}
variable {M : Mx} {W : WX} {X : Cx} {F H F' H' F1 H1 F2 H2 H0 : Hp} {σ σ1 : L2.St} {ρ ρ1 ρ2 : SE}
variable {a b c e o : Expr} {ma mb m mo : DM RV} {es : List Expr} {ms : DM (List AV)} {pos p p' apos : Pos} {x f mn : Str}
end
end DL

/- part -/
set_option Elab.async false
set_option linter.all false
set_option maxRecDepth 100000
set_option maxHeartbeats 1000000
namespace DL
open PySem PySem.Spec PyProof.Rows L2
section
variable {M : Mx} {F H : Hp}
end
section
variable {P : Program} {w : World} {base : Heap} {N : List Str} {sc : Scope} {j : Nat}
variable {M : Mx} {W : WX} {X : Cx} {F H F' H' F1 H1 F2 H2 H0 : Hp} {σ σ1 : L2.St} {ρ ρ1 ρ2 : SE}
variable {a b c e o : Expr} {ma mb m m1 m2 mo : DM RV} {es : List Expr} {ms : DM (List AV)} {pos p p' apos : Pos} {x f mn : Str}
end
end DL

/- part -/
set_option Elab.async false
set_option linter.all false
set_option maxRecDepth 100000
set_option maxHeartbeats 1000000
namespace DL
open PySem PySem.Spec PyProof.Rows L2
section
variable {prog : Program} {w : World} {A : Around} {E : Value → Shared → Prop} {s : Shared}
end
section
variable {X : Cx}
end
section
variable {M : Mx} {W : WX} {X : Cx} {F H F' H' F1 H1 H0 : Hp} {σ : L2.St} {ρ ρ1 : SE}
variable {P : Program} {w : World} {base : Heap} {N : List Str} {sc : Scope} {j : Nat}
variable {a b c e : Expr} {ma mb mc m : DM RV} {es : List Expr} {pos p p2 q : Pos} {mv : DM (List D)}
end
end DL

/- part -/
set_option Elab.async false
set_option linter.all false
set_option maxRecDepth 100000
set_option maxHeartbeats 1000000
namespace DL
open PySem PySem.Spec PyProof.Rows L2
section
variable {M : Mx} {W : WX} {X : Cx} {F H F' H' F1 H1 H0 : Hp} {σ : L2.St} {ρ ρ1 : SE}
variable {P : Program} {w : World} {base : Heap} {N : List Str} {sc : Scope} {j : Nat}
variable {a b c e : Expr} {ma mb mc m : DM RV} {es : List Expr} {pos p p2 q : Pos} {mv : DM (List D)}
end
end DL

/- part -/
set_option Elab.async false
set_option linter.all false
set_option maxRecDepth 100000
set_option maxHeartbeats 1000000
namespace DL
open PySem PySem.Spec PyProof.Rows L2
structure MDefAt (M : Mx) (c m q : Str) (st : Stmt) (ps : List Str) where
  f : Addr
  fd : FuncData
  cl : Cls M.K (M.ca c)
  me : Meth M.K (M.ca c) m f
  b : Binds M.K fd ps []
  fu : Fun M.K m q st f fd
structure IDefAt (M : Mx) (c q : Str) (st : Stmt) (ps : List Str) where
  f : Addr
  fd : FuncData
  g : M.mg c = some (.ref (M.ca c))
  cl : Cls M.K (M.ca c)
  mkr : Mk M.K (M.ca c) f
  b : Binds M.K fd ps []
  fu : Fun M.K "__init__" q st f fd
section
variable {P : Program} {w : World} {base : Heap} {N : List Str} {sc : Scope} {j : Nat}
variable {M : Mx} {W : WX} {X : Cx} {F H F' H' F1 H1 F2 H2 H0 : Hp} {σ σ1 : L2.St} {ρ ρ1 ρ2 : SE}
variable {a b c e o : Expr} {ma mb m mo : DM RV} {es : List Expr} {ms : DM (List AV)} {pos p p' apos : Pos} {x f : Str}
def MDefAt.cal {k n : Nat} {c m q : Str} {st : Stmt} {ps : List Str} {mm : SE → R RV} (d : MDefAt M c m q st ps) (ok : FnOk P w M.K M.mg base (L2.CX P w) k d.f d.fd ps (spD M n mm)) : MCal P w base M c m k n mm := ⟨d.f, d.fd, ps, d.cl, d.me, d.b, ok⟩
def IDefAt.cal {k n : Nat} {c q : Str} {st : Stmt} {ps : List Str} {mm : SE → R RV} (d : IDefAt M c q st ps) (ok : FnOk P w M.K M.mg base (L2.CX P w) k d.f d.fd ps (spD M n mm)) : ICal P w base M c k n mm := ⟨d.f, d.fd, ps, d.g, d.cl, d.mkr, d.b, ok⟩
end
end DL

/- part -/
set_option Elab.async false
set_option linter.all false
set_option maxRecDepth 100000
set_option maxHeartbeats 1000000
namespace DL
open PySem PySem.Spec PyProof.Rows L2
class Cont (α : Type) where
  go : α → SE → Prop
  stop : Exc → SE → Prop
def WpD {α : Type} (r : R α) (c : Cont α) : Prop := match r with
  | .bad => False
  | .ok a ρ => c.go a ρ
  | .ex e ρ => c.stop e ρ
structure Wp {α : Type} (r : R α) [c : Cont α] : Prop where
  h : WpD r c
abbrev WP {α : Type} (r : R α) (Q : α → SE → Prop) (E : Exc → SE → Prop) : Prop := @Wp α r ⟨Q, E⟩
abbrev noX : Exc → SE → Prop := fun _ _ => False
theorem wp_D {α : Type} {r : R α} {c : Cont α} : @Wp α r c = WpD r c := propext ⟨fun h => h.h, fun h => ⟨h⟩⟩
theorem wpI {α : Type} {r : R α} {c : Cont α} (h : WpD r c) : @Wp α r c := Eq.mpr wp_D h
theorem wpE {α : Type} {r : R α} {c : Cont α} (h : @Wp α r c) : WpD r c := Eq.mp wp_D h
section
variable {α β : Type} {a : α} {r : R α} {ρ ρ1 ρ2 : SE} {Q Q' : α → SE → Prop} {E E' : Exc → SE → Prop} {e : Exc}
@[simp ↓] theorem wp_open : WP r Q E = @Wp α r ⟨Q, E⟩ := rfl
@[simp ↓, simp] theorem wp_ok : WP (.ok a ρ) Q E = Q a ρ := wp_D
@[simp ↓, simp] theorem wp_ex : WP (.ex e ρ : R α) Q E = E e ρ := wp_D
@[simp ↓, simp] theorem wp_bad : WP (.bad : R α) Q E = False := wp_D
@[simp ↓, simp] theorem wp_bind {f : α → SE → R β} {Q : β → SE → Prop} : WP (r.bind f) Q E = WP r (fun a ρ => WP (f a ρ) Q E) E := by
  cases r with
  | bad => exact wp_bad.trans wp_bad.symm
  | ok a ρ => exact (wp_ok (Q := fun a ρ => WP (f a ρ) Q E) (E := E) (a := a) (ρ := ρ)).symm
  | ex e ρ => exact wp_ex.trans (wp_ex (Q := fun a ρ => WP (f a ρ) Q E)).symm
theorem Wp.mono (h : WP r Q E) (h1 : ∀ a ρ, Q a ρ → Q' a ρ) (h2 : ∀ e ρ, E e ρ → E' e ρ := by intro _ _ z; exact z) : WP r Q' E' := by
  cases r with
  | bad => exact (wp_bad ▸ h : False).elim
  | ok a ρ =>
    rw [wp_ok] at h ⊢
    exact h1 a ρ h
  | ex e ρ =>
    rw [wp_ex] at h ⊢
    exact h2 e ρ h
theorem Wp.of (h : r = .ok a ρ) (q : Q a ρ) : WP r Q E := by
  rw [h, wp_ok]
  exact q
theorem Wp.eq {x : α} {ρ' : SE} (h : WP r (fun a ρ => a = x ∧ ρ = ρ') noX) : r = .ok x ρ' := by
  cases r with
  | bad => exact False.elim (wpE h)
  | ok a ρ =>
    have h : a = x ∧ ρ = ρ' := wpE h
    obtain ⟨h1, h2⟩ := h
    rw [h1, h2]
  | ex e ρ => exact False.elim (wpE h)
theorem Wp.some (h : WP r Q noX) : ∃ a ρ, r = .ok a ρ ∧ Q a ρ := by
  cases r with
  | bad => exact False.elim (wpE h)
  | ok a ρ => exact ⟨a, ρ, rfl, wpE h⟩
  | ex e ρ => exact False.elim (wpE h)
end
def retR (r : R RV) (ρ : SE) : R RV := match r with
  | .bad => .bad
  | .ok r _ => if notBo r = true then .ok r ρ else .bad
  | .ex e _ => .ex e ρ
def retIo (r : R RV) (j i : Nat) (ρ : SE) : R RV := match r with
  | .bad => .bad
  | .ok r svs => if notBo r = true then (match backIo ρ j i svs with
    | some ρ2 => .ok r ρ2
    | none => .bad) else .bad
  | .ex e svs => (match backIo ρ j i svs with
    | some ρ2 => .ex e ρ2
    | none => .bad)
section
variable {m : SE → R RV} {as : List AV} {ρ ρ1 : SE} {r : R RV} {Q : RV → SE → Prop} {E : Exc → SE → Prop} {d e f g : D} {i j : Nat}
theorem callR_no (h : iosOf 0 as = []) : callR m as ρ = retR (m (as.map (argSV ρ))) ρ := by
  unfold callR
  rw [h]
  rfl
theorem callR_io (h : iosOf 0 as = [(j, i)]) : callR m as ρ = retIo (m (as.map (argSV ρ))) j i ρ := by
  unfold callR
  rw [h]
  rfl
@[simp] theorem argSV_io {io : Bool} {oc : OC} (h : ρ[i]? = some (.ow io oc)) : argSV ρ (.io i) = .ow true oc := by
  show (match ρ[i]? with
    | some (.ow _ ds) => SV.ow true ds
    | _ => .no) = _
  rw [h]
def ioSV : Option SV → SV
  | some (.ow _ ds) => .ow true ds
  | _ => .no
@[simp] theorem ioSV_ow {io : Bool} {oc : OC} : ioSV (some (.ow io oc)) = .ow true oc := rfl
theorem argSV_eq : argSV ρ (.io i) = ioSV ρ[i]? := by
  show (match ρ[i]? with
    | some (.ow _ ds) => SV.ow true ds
    | _ => .no) = _
  cases ρ[i]? with
  | none => rfl
  | some x => cases x <;> rfl
@[simp] theorem callR_0 : callR m [] ρ = retR (m []) ρ := callR_no rfl
@[simp] theorem callR_1 : callR m [.d d] ρ = retR (m [.im d]) ρ := callR_no rfl
@[simp] theorem callR_2 : callR m [.d d, .d e] ρ = retR (m [.im d, .im e]) ρ := callR_no rfl
@[simp] theorem callR_3 : callR m [.d d, .d e, .d f] ρ = retR (m [.im d, .im e, .im f]) ρ := callR_no rfl
@[simp] theorem callR_4 : callR m [.d d, .d e, .d f, .d g] ρ = retR (m [.im d, .im e, .im f, .im g]) ρ := callR_no rfl
@[simp] theorem callR_io1 : callR m [.io i] ρ = retIo (m [ioSV ρ[i]?]) 0 i ρ := by
  rw [← argSV_eq]
  exact callR_io rfl
@[simp] theorem callR_io2 : callR m [.io i, .d d] ρ = retIo (m [ioSV ρ[i]?, .im d]) 0 i ρ := by
  rw [← argSV_eq]
  exact callR_io rfl
@[simp] theorem callR_io3 : callR m [.io i, .d d, .d e] ρ = retIo (m [ioSV ρ[i]?, .im d, .im e]) 0 i ρ := by
  rw [← argSV_eq]
  exact callR_io rfl
@[simp] theorem callR_io4 : callR m [.io i, .d d, .d e, .d f] ρ = retIo (m [ioSV ρ[i]?, .im d, .im e, .im f]) 0 i ρ := by
  rw [← argSV_eq]
  exact callR_io rfl
theorem retR_okA {x : RV} : retR (.ok x ρ1) ρ = if notBo x = true then .ok x ρ else .bad := rfl
@[simp ↓, simp] theorem wp_retR : WP (retR r ρ) Q E = WP r (fun x _ => notBo x = true ∧ Q x ρ) (fun e _ => E e ρ) := by
  cases r with
  | bad => exact wp_bad.trans wp_bad.symm
  | ex e ρ1 => exact wp_ex.trans (wp_ex (Q := fun x _ => notBo x = true ∧ Q x ρ) (E := fun e _ => E e ρ)).symm
  | ok x ρ1 =>
    rw [retR_okA, wp_ok]
    cases h : notBo x with
    | true => simp
    | false => simp
@[simp ↓, simp] theorem wp_retIo : WP (retIo r j i ρ) Q E = WP r (fun x svs => notBo x = true ∧ ∃ ρ2, backIo ρ j i svs = some ρ2 ∧ Q x ρ2) (fun e svs => ∃ ρ2, backIo ρ j i svs = some ρ2 ∧ E e ρ2) := by
  cases r with
  | bad => exact wp_bad.trans wp_bad.symm
  | ex e ρ1 =>
    rw [wp_ex]
    show WP (match backIo ρ j i ρ1 with
      | some ρ2 => (.ex e ρ2 : R RV)
      | none => .bad) Q E = ∃ ρ2, backIo ρ j i ρ1 = some ρ2 ∧ E e ρ2
    cases backIo ρ j i ρ1 <;> simp
  | ok x ρ1 =>
    rw [wp_ok]
    show WP (if notBo x = true then (match backIo ρ j i ρ1 with
      | some ρ2 => (.ok x ρ2 : R RV)
      | none => .bad) else .bad) Q E = (notBo x = true ∧ ∃ ρ2, backIo ρ j i ρ1 = some ρ2 ∧ Q x ρ2)
    cases notBo x with
    | false => simp
    | true => cases backIo ρ j i ρ1 <;> simp
def bk2 (ρ : SE) (i : Nat) : Option SV → Option SV → Option SE
  | some (.ow true ds), some (.ow io _) => some (ρ.set i (.ow io ds))
  | _, _ => none
@[simp] theorem backIo_bk {svs : SE} : backIo ρ j i svs = bk2 ρ i svs[j]? ρ[i]? := rfl
@[simp] theorem bk2_ow {oc oc2 : OC} {io : Bool} : bk2 ρ i (some (.ow true oc)) (some (.ow io oc2)) = some (ρ.set i (.ow io oc)) := rfl
theorem wp_fn {nN : Nat} {mb : DM Fl} {svs : SE} (h : WP (mb (svs ++ List.replicate (nN - svs.length) .no)) (fun f ρ => WP (mRet svs f ρ) Q E) (fun e ρ => E e (outs svs ρ))) : WP (mFn nN mb svs) Q E := by
  unfold mFn
  cases e : mb (svs ++ List.replicate (nN - svs.length) .no) with
  | bad =>
    rw [e] at h
    exact False.elim (wpE h)
  | ok f ρ =>
    rw [e, wp_ok] at h
    exact h
  | ex x ρ =>
    rw [e] at h
    have h : E x (outs svs ρ) := wpE h
    exact wpI h
def loopQ (Q : Fl → SE → Prop) (I : SE → Prop) : Fl → SE → Prop
  | .nx, ρ => I ρ
  | .ct, ρ => I ρ
  | .bk, ρ => Q .nx ρ
  | .rt r, ρ => Q (.rt r) ρ
@[simp] theorem loopQ_nx {Q : Fl → SE → Prop} {I : SE → Prop} : loopQ Q I .nx ρ = I ρ := rfl
@[simp] theorem loopQ_ct {Q : Fl → SE → Prop} {I : SE → Prop} : loopQ Q I .ct ρ = I ρ := rfl
@[simp] theorem loopQ_bk {Q : Fl → SE → Prop} {I : SE → Prop} : loopQ Q I .bk ρ = Q .nx ρ := rfl
@[simp] theorem loopQ_rt {Q : Fl → SE → Prop} {I : SE → Prop} {r : RV} : loopQ Q I (.rt r) ρ = Q (.rt r) ρ := rfl
theorem wp_floop {gm : D → SE → R Unit} {b : DM Fl} {Q : Fl → SE → Prop} {ds : List D} (I : Nat → SE → Prop) (h0 : I 0 ρ) (hs : ∀ i d ρ, ds[i]? = some d → I i ρ → WP (gm d ρ) (fun _ ρ1 => WP (b ρ1) (loopQ Q (I (i + 1))) E) E) (hd : ∀ ρ, I ds.length ρ → Q .nx ρ) : WP (floop gm b ds ρ) Q E := by
  have main : ∀ (n : Nat) (ρ : SE), n ≤ ds.length → I n ρ → WP (floop gm b (ds.drop n) ρ) Q E := by
    intro n
    induction hk : ds.length - n generalizing n with
    | zero =>
      intro ρ hn h
      have e : n = ds.length := by omega
      subst e
      rw [List.drop_length]
      exact wpI (hd ρ h)
    | succ k ih =>
      intro ρ hn h
      have lt : n < ds.length := by omega
      rw [List.drop_eq_getElem_cons lt]
      have s1 := hs n ds[n] ρ (List.getElem?_eq_getElem lt) h
      unfold floop
      rw [wp_bind]
      refine s1.mono fun _ ρ1 s2 => ?_
      rw [wp_bind]
      refine s2.mono fun f ρ2 s3 => ?_
      cases f with
      | nx => exact ih (n + 1) (by omega) ρ2 (by omega) s3
      | ct => exact ih (n + 1) (by omega) ρ2 (by omega) s3
      | bk => exact wpI s3
      | rt x => exact wpI s3
  have := main 0 ρ (Nat.zero_le _) h0
  rwa [List.drop_zero] at this
theorem wp_cloop {vs : List Nat} {gm : D → SE → R Unit} {mt : DM Bool} {me : DM RV} {Q : List D → SE → Prop} {ds : List D} (I : Nat → List D → SE → Prop) (hz : ds.length ≤ 1000000) (h0 : I 0 [] ρ) (hw : ∀ i acc ρ, I i acc ρ → noOw ρ vs = true ∧ acc.length ≤ i)
    (hs : ∀ i d acc ρ, ds[i]? = some d → I i acc ρ → WP (cTurn vs gm mt me d ρ) (fun o ρ1 => I (i + 1) (addO acc o) ρ1) E) (hd : ∀ acc ρ, I ds.length acc ρ → Q acc ρ) : WP (cLoop vs gm mt me ds [] ρ) Q E := by
  have main : ∀ (n : Nat) (acc : List D) (ρ : SE), n ≤ ds.length → I n acc ρ → WP (cLoop vs gm mt me (ds.drop n) acc ρ) Q E := by
    intro n
    induction hk : ds.length - n generalizing n with
    | zero =>
      intro acc ρ hn h
      have e : n = ds.length := by omega
      subst e
      rw [List.drop_length]
      exact wpI (hd acc ρ h)
    | succ k ih =>
      intro acc ρ hn h
      have lt : n < ds.length := by omega
      rw [List.drop_eq_getElem_cons lt]
      obtain ⟨w1, w2⟩ := hw n acc ρ h
      have s1 := hs n ds[n] acc ρ (List.getElem?_eq_getElem lt) h
      unfold cLoop
      rw [if_pos (by rw [w1]; simp; omega), wp_bind]
      exact s1.mono fun o ρ1 s2 => ih (n + 1) (by omega) _ ρ1 (by omega) s2
  have := main 0 [] ρ (Nat.zero_le _) h0
  rwa [List.drop_zero] at this
theorem wp_while {c : DM Bool} {b : DM Fl} {Q : Fl → SE → Prop} (I : Nat → SE → Prop) {n : Nat} (h0 : I n ρ) (hs : ∀ n ρ, I n ρ → WP (c ρ) (fun k ρ1 => if k = true then WP (b ρ1) (loopQ Q fun ρ2 => ∃ k, k < n ∧ I k ρ2) E else Q .nx ρ1) E) : WP (sWhile c b ρ) Q E := by
  induction n using Nat.strongRecOn generalizing ρ with
  | ind n ih =>
    have s1 := hs n ρ h0
    rw [sWhile_eq, wp_bind]
    refine s1.mono fun k ρ1 s2 => ?_
    cases k with
    | false => exact wpI s2
    | true =>
      rw [if_pos rfl] at s2 ⊢
      rw [wp_bind]
      refine s2.mono fun f ρ2 s3 => ?_
      cases f with
      | nx =>
        obtain ⟨k, hk, hi⟩ := s3
        exact ih k hk hi
      | ct =>
        obtain ⟨k, hk, hi⟩ := s3
        exact ih k hk hi
      | bk => exact wpI s3
      | rt x => exact wpI s3
end
def Nio (sv : SV) : Prop := ∀ oc, sv ≠ .ow true oc
@[simp] theorem nio_no : Nio .no := fun _ z => by cases z
@[simp] theorem nio_im {d : D} : Nio (.im d) := fun _ z => by cases z
@[simp] theorem nio_ow {oc : OC} : Nio (.ow false oc) := fun _ z => by cases z
theorem stow_at {ρ : SE} {i : Nat} {x sv : SV} (e : ρ[i]? = some x) (h : Nio x) : stow ρ i sv = .ok () (ρ.set i sv) := by
  unfold stow
  rw [e]
  cases x with
  | no => rfl
  | im d => rfl
  | ow io oc =>
    cases io with
    | true => exact (h oc rfl).elim
    | false => rfl
section
variable {x0 x1 x2 x3 x4 x5 x6 x7 x8 x9 x10 x11 x12 x13 x14 x15 x16 x17 x18 x19 x20 sv : SV} {l : SE}
@[simp] theorem stow_0 (h : Nio x0) : stow (x0 :: l) 0 sv = .ok () (sv :: l) := stow_at rfl h
@[simp] theorem stow_1 (h : Nio x1) : stow (x0 :: x1 :: l) 1 sv = .ok () (x0 :: sv :: l) := stow_at rfl h
@[simp] theorem stow_2 (h : Nio x2) : stow (x0 :: x1 :: x2 :: l) 2 sv = .ok () (x0 :: x1 :: sv :: l) := stow_at rfl h
@[simp] theorem stow_3 (h : Nio x3) : stow (x0 :: x1 :: x2 :: x3 :: l) 3 sv = .ok () (x0 :: x1 :: x2 :: sv :: l) := stow_at rfl h
@[simp] theorem stow_4 (h : Nio x4) : stow (x0 :: x1 :: x2 :: x3 :: x4 :: l) 4 sv = .ok () (x0 :: x1 :: x2 :: x3 :: sv :: l) := stow_at rfl h
@[simp] theorem stow_5 (h : Nio x5) : stow (x0 :: x1 :: x2 :: x3 :: x4 :: x5 :: l) 5 sv = .ok () (x0 :: x1 :: x2 :: x3 :: x4 :: sv :: l) := stow_at rfl h
@[simp] theorem stow_6 (h : Nio x6) : stow (x0 :: x1 :: x2 :: x3 :: x4 :: x5 :: x6 :: l) 6 sv = .ok () (x0 :: x1 :: x2 :: x3 :: x4 :: x5 :: sv :: l) := stow_at rfl h
@[simp] theorem stow_7 (h : Nio x7) : stow (x0 :: x1 :: x2 :: x3 :: x4 :: x5 :: x6 :: x7 :: l) 7 sv = .ok () (x0 :: x1 :: x2 :: x3 :: x4 :: x5 :: x6 :: sv :: l) := stow_at rfl h
@[simp] theorem stow_8 (h : Nio x8) : stow (x0 :: x1 :: x2 :: x3 :: x4 :: x5 :: x6 :: x7 :: x8 :: l) 8 sv = .ok () (x0 :: x1 :: x2 :: x3 :: x4 :: x5 :: x6 :: x7 :: sv :: l) := stow_at rfl h
@[simp] theorem stow_9 (h : Nio x9) : stow (x0 :: x1 :: x2 :: x3 :: x4 :: x5 :: x6 :: x7 :: x8 :: x9 :: l) 9 sv = .ok () (x0 :: x1 :: x2 :: x3 :: x4 :: x5 :: x6 :: x7 :: x8 :: sv :: l) := stow_at rfl h
@[simp] theorem stow_10 (h : Nio x10) : stow (x0 :: x1 :: x2 :: x3 :: x4 :: x5 :: x6 :: x7 :: x8 :: x9 :: x10 :: l) 10 sv = .ok () (x0 :: x1 :: x2 :: x3 :: x4 :: x5 :: x6 :: x7 :: x8 :: x9 :: sv :: l) := stow_at rfl h
@[simp] theorem stow_11 (h : Nio x11) : stow (x0 :: x1 :: x2 :: x3 :: x4 :: x5 :: x6 :: x7 :: x8 :: x9 :: x10 :: x11 :: l) 11 sv = .ok () (x0 :: x1 :: x2 :: x3 :: x4 :: x5 :: x6 :: x7 :: x8 :: x9 :: x10 :: sv :: l) := stow_at rfl h
@[simp] theorem stow_12 (h : Nio x12) : stow (x0 :: x1 :: x2 :: x3 :: x4 :: x5 :: x6 :: x7 :: x8 :: x9 :: x10 :: x11 :: x12 :: l) 12 sv = .ok () (x0 :: x1 :: x2 :: x3 :: x4 :: x5 :: x6 :: x7 :: x8 :: x9 :: x10 :: x11 :: sv :: l) := stow_at rfl h
@[simp] theorem stow_13 (h : Nio x13) : stow (x0 :: x1 :: x2 :: x3 :: x4 :: x5 :: x6 :: x7 :: x8 :: x9 :: x10 :: x11 :: x12 :: x13 :: l) 13 sv = .ok () (x0 :: x1 :: x2 :: x3 :: x4 :: x5 :: x6 :: x7 :: x8 :: x9 :: x10 :: x11 :: x12 :: sv :: l) := stow_at rfl h
@[simp] theorem stow_14 (h : Nio x14) : stow (x0 :: x1 :: x2 :: x3 :: x4 :: x5 :: x6 :: x7 :: x8 :: x9 :: x10 :: x11 :: x12 :: x13 :: x14 :: l) 14 sv = .ok () (x0 :: x1 :: x2 :: x3 :: x4 :: x5 :: x6 :: x7 :: x8 :: x9 :: x10 :: x11 :: x12 :: x13 :: sv :: l) := stow_at rfl h
@[simp] theorem stow_15 (h : Nio x15) : stow (x0 :: x1 :: x2 :: x3 :: x4 :: x5 :: x6 :: x7 :: x8 :: x9 :: x10 :: x11 :: x12 :: x13 :: x14 :: x15 :: l) 15 sv = .ok () (x0 :: x1 :: x2 :: x3 :: x4 :: x5 :: x6 :: x7 :: x8 :: x9 :: x10 :: x11 :: x12 :: x13 :: x14 :: sv :: l) := stow_at rfl h
@[simp] theorem stow_16 (h : Nio x16) : stow (x0 :: x1 :: x2 :: x3 :: x4 :: x5 :: x6 :: x7 :: x8 :: x9 :: x10 :: x11 :: x12 :: x13 :: x14 :: x15 :: x16 :: l) 16 sv = .ok () (x0 :: x1 :: x2 :: x3 :: x4 :: x5 :: x6 :: x7 :: x8 :: x9 :: x10 :: x11 :: x12 :: x13 :: x14 :: x15 :: sv :: l) := stow_at rfl h
@[simp] theorem stow_17 (h : Nio x17) : stow (x0 :: x1 :: x2 :: x3 :: x4 :: x5 :: x6 :: x7 :: x8 :: x9 :: x10 :: x11 :: x12 :: x13 :: x14 :: x15 :: x16 :: x17 :: l) 17 sv = .ok () (x0 :: x1 :: x2 :: x3 :: x4 :: x5 :: x6 :: x7 :: x8 :: x9 :: x10 :: x11 :: x12 :: x13 :: x14 :: x15 :: x16 :: sv :: l) := stow_at rfl h
@[simp] theorem stow_18 (h : Nio x18) : stow (x0 :: x1 :: x2 :: x3 :: x4 :: x5 :: x6 :: x7 :: x8 :: x9 :: x10 :: x11 :: x12 :: x13 :: x14 :: x15 :: x16 :: x17 :: x18 :: l) 18 sv = .ok () (x0 :: x1 :: x2 :: x3 :: x4 :: x5 :: x6 :: x7 :: x8 :: x9 :: x10 :: x11 :: x12 :: x13 :: x14 :: x15 :: x16 :: x17 :: sv :: l) := stow_at rfl h
@[simp] theorem stow_19 (h : Nio x19) : stow (x0 :: x1 :: x2 :: x3 :: x4 :: x5 :: x6 :: x7 :: x8 :: x9 :: x10 :: x11 :: x12 :: x13 :: x14 :: x15 :: x16 :: x17 :: x18 :: x19 :: l) 19 sv = .ok () (x0 :: x1 :: x2 :: x3 :: x4 :: x5 :: x6 :: x7 :: x8 :: x9 :: x10 :: x11 :: x12 :: x13 :: x14 :: x15 :: x16 :: x17 :: x18 :: sv :: l) := stow_at rfl h
@[simp] theorem stow_20 (h : Nio x20) : stow (x0 :: x1 :: x2 :: x3 :: x4 :: x5 :: x6 :: x7 :: x8 :: x9 :: x10 :: x11 :: x12 :: x13 :: x14 :: x15 :: x16 :: x17 :: x18 :: x19 :: x20 :: l) 20 sv = .ok () (x0 :: x1 :: x2 :: x3 :: x4 :: x5 :: x6 :: x7 :: x8 :: x9 :: x10 :: x11 :: x12 :: x13 :: x14 :: x15 :: x16 :: x17 :: x18 :: x19 :: sv :: l) := stow_at rfl h
end
def seqK (t : DM Fl) : Fl → SE → R Fl
  | .nx, ρ => t ρ
  | .rt r, ρ => .ok (.rt r) ρ
  | .bk, ρ => .ok .bk ρ
  | .ct, ρ => .ok .ct ρ
def varK (i : Nat) (o : Option SV) (ρ : SE) : R RV := match o with
  | some (.im d) => .ok (.im d) ρ
  | some (.ow _ _) => .ok (.bo i) ρ
  | _ => .bad
def parK (i j : Nat) (as : List AV) (ρ1 : SE) : R Fl := match as with
  | [.d d, .d e] => (stow ρ1 i (.im d)).bind fun _ ρ2 => (stow ρ2 j (.im e)).bind fun _ ρ3 => .ok .nx ρ3
  | _ => .bad
def augK (i : Nat) (g : D → D → Option RV) (m : DM RV) (o : Option SV) (ρ : SE) : R Fl := match o with
  | some (.im d) => (m ρ).bind fun r ρ1 => match (look ρ1 r).bind fun e => g (unl d) e with
    | some (.im f) => (stow ρ1 i (.im f)).bind fun _ ρ2 => .ok .nx ρ2
    | _ => .bad
  | _ => .bad
def augO (i : Nat) (o : Option RV) (ρ1 : SE) : R Fl := match o with
  | some (.im f) => (stow ρ1 i (.im f)).bind fun _ ρ2 => .ok .nx ρ2
  | _ => .bad
def chainK (h : D → D → Option RV) (mc : DM RV) (y : RV) (o : Option RV) (ρ2 : SE) : R RV := match o with
  | some (.im (.bl false)) => .ok (.im (.bl false)) ρ2
  | some (.im (.bl true)) => (mc ρ2).bind fun z ρ3 => ofO ((look ρ3 y).bind fun d => (look ρ3 z).bind fun e => h d e) ρ3
  | _ => .bad
def aioK (i : Nat) (ms : DM (List AV)) (o : Option SV) (ρ : SE) : R (List AV) := match o with
  | some (.ow _ _) => (ms ρ).bind fun as ρ2 => match ρ2[i]? with
    | some (.ow _ _) => .ok (.io i :: as) ρ2
    | _ => .bad
  | _ => .bad
def aioL (i : Nat) (as : List AV) (o : Option SV) (ρ2 : SE) : R (List AV) := match o with
  | some (.ow _ _) => .ok (.io i :: as) ρ2
  | _ => .bad
def rg1K (ds : List D) (ρ1 : SE) : R (List D) := match ds with
  | [.int j] => if rngOk j = true then .ok ((List.range j.toNat).map fun (i : Nat) => D.int (0 + (i : Int))) ρ1 else .bad
  | _ => .bad
def vK (o : Option D) (ds : List D) (ρ2 : SE) : R (List D) := match o with
  | some d => .ok (d :: ds) ρ2
  | none => .bad
def lmO (i : Nat) (g : List D → List D → Option (D × List D)) (as : Option (List D)) (o : Option SV) (ρ1 : SE) : R RV := match o, as with
    | some (.ow io (.ls ds)), some xs => match g ds xs with
      | some (d, es) => .ok (.im d) (ρ1.set i (.ow io (.ls es)))
      | none => .bad
    | _, _ => .bad
def lmK (i : Nat) (g : List D → List D → Option (D × List D)) (ms : DM (List AV)) (o : Option SV) (ρ : SE) : R RV := match o with
  | some (.ow _ (.ls _)) => (ms ρ).bind fun as ρ1 => lmO i g (avD as) ρ1[i]? ρ1
  | _ => .bad
def lmP (i : Nat) (io : Bool) (o : Option (D × List D)) (ρ1 : SE) : R RV := match o with
  | some (d, es) => .ok (.im d) (ρ1.set i (.ow io (.ls es)))
  | none => .bad
def joinK (mb : DM RV) (x : RV) (ρ1 : SE) : R RV := match x with
  | .im (.str a) => (mb ρ1).bind fun y ρ2 => ofO ((look ρ2 y).bind (joinD (.str a))) ρ2
  | _ => .bad
section
variable {ρ ρ1 ρ2 : SE} {d e f : D} {i j n : Nat} {E : Exc → SE → Prop}
@[simp ↓, simp] theorem u_sSeq {s t : DM Fl} {c : Cont Fl} : Wp (sSeq s t ρ) = Wp ((s ρ).bind fun f ρ1 => seqK t f ρ1 : R (Fl)) := by
  have e : sSeq s t ρ = (s ρ).bind fun f ρ1 => seqK t f ρ1 := by
    show ((s ρ).bind fun f ρ1 => match f with
      | .nx => t ρ1
      | f => .ok f ρ1) = _
    cases s ρ with
    | bad => rfl
    | ex e ρ1 => rfl
    | ok f ρ1 => cases f <;> rfl
  rw [e]
@[simp ↓, simp] theorem u_sIf {mt : DM Bool} {s t : DM Fl} {c : Cont Fl} : Wp (sIf mt s t ρ) = Wp ((mt ρ).bind fun k ρ1 => if k = true then s ρ1 else t ρ1 : R (Fl)) := rfl
@[simp ↓, simp] theorem u_sSet {i : Nat} {m : DM RV} {c : Cont Fl} : Wp (sSet i m ρ) = Wp (((m ρ).bind asSV).bind fun sv ρ1 => (stow ρ1 i sv).bind fun _ ρ2 => .ok .nx ρ2 : R (Fl)) := rfl
@[simp ↓, simp] theorem u_sFor {mi : DM (List D)} {gm : D → SE → R Unit} {b : DM Fl} {c : Cont Fl} : Wp (sFor mi gm b ρ) = Wp ((mi ρ).bind fun ds ρ1 => floop gm b ds ρ1 : R (Fl)) := rfl
@[simp ↓, simp] theorem u_sRet {m : DM RV} {c : Cont Fl} : Wp (sRet m ρ) = Wp ((m ρ).bind fun r ρ1 => .ok (.rt r) ρ1 : R (Fl)) := rfl
@[simp ↓, simp] theorem u_sExpr {m : DM RV} {c : Cont Fl} : Wp (sExpr m ρ) = Wp ((m ρ).bind fun _ ρ1 => (.ok .nx ρ1 : R Fl) : R (Fl)) := rfl
@[simp ↓, simp] theorem u_sPass {c : Cont Fl} : Wp (sPass ρ) = Wp ((.ok .nx ρ : R Fl) : R (Fl)) := rfl
@[simp ↓, simp] theorem u_sRaise1 {x T f : Str} {ma : DM RV} {c : Cont Fl} : Wp (sRaise1 x T f ma ρ) = Wp ((dFz ma ρ).bind fun d ρ1 => (.ex ⟨x, [(f, d), ("tag", .str T)]⟩ ρ1 : R Fl) : R (Fl)) := rfl
@[simp ↓, simp] theorem u_sAsg {gm : D → SE → R Unit} {m : DM RV} {c : Cont Fl} : Wp (sAsg gm m ρ) = Wp ((dFz m ρ).bind fun d ρ1 => (gm d ρ1).bind fun _ ρ2 => .ok .nx ρ2 : R (Fl)) := rfl
@[simp ↓, simp] theorem u_sPar {i j : Nat} {ms : DM (List AV)} {c : Cont Fl} : Wp (sPar i j ms ρ) = Wp ((ms ρ).bind fun as ρ1 => parK i j as ρ1 : R (Fl)) := rfl
@[simp ↓, simp] theorem u_sAug {i : Nat} {g : D → D → Option RV} {m : DM RV} {c : Cont Fl} : Wp (sAug i g m ρ) = Wp (augK i g m ρ[i]? ρ : R (Fl)) := rfl
@[simp ↓, simp] theorem u_dAndT {mt mu : DM Bool} {c : Cont Bool} : Wp (dAndT mt mu ρ) = Wp ((mt ρ).bind fun k ρ1 => if k = true then mu ρ1 else .ok false ρ1 : R (Bool)) := rfl
@[simp ↓, simp] theorem u_dOrT {mt mu : DM Bool} {c : Cont Bool} : Wp (dOrT mt mu ρ) = Wp ((mt ρ).bind fun k ρ1 => if k = true then .ok true ρ1 else mu ρ1 : R (Bool)) := rfl
@[simp ↓, simp] theorem u_dNotT {mt : DM Bool} {c : Cont Bool} : Wp (dNotT mt ρ) = Wp ((mt ρ).bind fun k ρ1 => .ok (!k) ρ1 : R (Bool)) := rfl
@[simp ↓, simp] theorem u_dAnd {ma mb : DM RV} {c : Cont RV} : Wp (dAnd ma mb ρ) = Wp (((ma ρ).bind asB).bind fun k ρ1 => if k = true then mb ρ1 else .ok (.im (.bl false)) ρ1 : R (RV)) := rfl
@[simp ↓, simp] theorem u_dNot {ma : DM RV} {c : Cont RV} : Wp (dNot ma ρ) = Wp (((ma ρ).bind asB).bind fun k ρ1 => .ok (.im (.bl (!k))) ρ1 : R (RV)) := rfl
@[simp ↓, simp] theorem u_dIf {mt : DM Bool} {ma mb : DM RV} {c : Cont RV} : Wp (dIf mt ma mb ρ) = Wp ((mt ρ).bind fun k ρ1 => if k = true then ma ρ1 else mb ρ1 : R (RV)) := rfl
@[simp ↓, simp] theorem u_dVar {i : Nat} {c : Cont RV} : Wp (dVar i ρ) = Wp (varK i ρ[i]? ρ : R (RV)) := rfl
@[simp ↓, simp] theorem u_dC {d : D} {c : Cont RV} : Wp (dC d ρ) = Wp ((.ok (.im d) ρ : R RV) : R (RV)) := rfl
@[simp ↓, simp] theorem u_dOp1 {g : D → Option RV} {ma : DM RV} {c : Cont RV} : Wp (dOp1 g ma ρ) = Wp ((ma ρ).bind fun x ρ1 => ofO ((look ρ1 x).bind g) ρ1 : R (RV)) := rfl
@[simp ↓, simp] theorem u_dOp2 {g : D → D → Option RV} {ma mb : DM RV} {c : Cont RV} : Wp (dOp2 g ma mb ρ) = Wp ((ma ρ).bind fun x ρ1 => (mb ρ1).bind fun y ρ2 => ofO ((look ρ2 x).bind fun d => (look ρ2 y).bind fun e => g d e) ρ2 : R (RV)) := rfl
@[simp ↓, simp] theorem u_dChain {g h : D → D → Option RV} {ma mb mc : DM RV} {c : Cont RV} : Wp (dChain g h ma mb mc ρ) = Wp ((ma ρ).bind fun x ρ1 => (mb ρ1).bind fun y ρ2 => chainK h mc y ((look ρ2 x).bind fun d => (look ρ2 y).bind fun e => g d e) ρ2 : R (RV)) := rfl
@[simp ↓, simp] theorem u_dFz {ma : DM RV} {c : Cont D} : Wp (dFz ma ρ) = Wp ((ma ρ).bind fz : R (D)) := rfl
@[simp ↓, simp] theorem u_aNil {c : Cont (List AV)} : Wp (aNil ρ) = Wp ((.ok [] ρ : R (List AV)) : R (List AV)) := rfl
@[simp ↓, simp] theorem u_aCons {ma : DM RV} {ms : DM (List AV)} {c : Cont (List AV)} : Wp (aCons ma ms ρ) = Wp ((dFz ma ρ).bind fun d ρ1 => (ms ρ1).bind fun as ρ2 => .ok (.d d :: as) ρ2 : R (List AV)) := rfl
@[simp ↓, simp] theorem u_aIo {i : Nat} {ms : DM (List AV)} {c : Cont (List AV)} : Wp (aIo i ms ρ) = Wp (aioK i ms ρ[i]? ρ : R (List AV)) := rfl
@[simp ↓, simp] theorem u_dCall {n : Nat} {ds : List D} {m : SE → R RV} {ms : DM (List AV)} {c : Cont RV} : Wp (dCall n ds m ms ρ) = Wp ((ms ρ).bind fun as ρ1 => if (as ++ ds.map AV.d).length = n then callR m (as ++ ds.map AV.d) ρ1 else .bad : R (RV)) := rfl
@[simp ↓, simp] theorem u_dLc {vs : List Nat} {mi : DM (List D)} {gm : D → SE → R Unit} {mt : DM Bool} {me : DM RV} {c : Cont RV} : Wp (dLc vs mi gm mt me ρ) = Wp ((mi ρ).bind fun ds ρ1 => (cLoop vs gm mt me ds [] ρ1).bind fun ys ρ2 => .ok (.ow (.ls ys)) ρ2 : R (RV)) := rfl
@[simp ↓, simp] theorem u_iSeq {m : DM RV} {c : Cont (List D)} : Wp (iSeq m ρ) = Wp ((dFz m ρ).bind iSeqs : R (List D)) := rfl
@[simp ↓, simp] theorem u_iRange1 {mv : DM (List D)} {c : Cont (List D)} : Wp (iRange1 mv ρ) = Wp ((mv ρ).bind fun ds ρ1 => rg1K ds ρ1 : R (List D)) := rfl
@[simp ↓, simp] theorem u_vNil {c : Cont (List D)} : Wp (vNil ρ) = Wp ((.ok [] ρ : R (List D)) : R (List D)) := rfl
@[simp ↓, simp] theorem u_vCons {ma : DM RV} {ms : DM (List D)} {c : Cont (List D)} : Wp (vCons ma ms ρ) = Wp ((ma ρ).bind fun x ρ1 => (ms ρ1).bind fun ds ρ2 => vK (look ρ2 x) ds ρ2 : R (List D)) := rfl
@[simp ↓, simp] theorem u_dCb {g : List D → Option RV} {mv : DM (List D)} {c : Cont RV} : Wp (dCb g mv ρ) = Wp ((mv ρ).bind fun ds ρ1 => ofO (g ds) ρ1 : R (RV)) := rfl
@[simp ↓, simp] theorem u_dTup {ms : DM (List AV)} {c : Cont RV} : Wp (dTup ms ρ) = Wp ((ms ρ).bind fun as ρ1 => ofO ((avD as).bind fun ds => if ds.length ≤ 1000 then some (.im (.tup ds)) else none) ρ1 : R (RV)) := rfl
@[simp ↓, simp] theorem u_dLst {ms : DM (List AV)} {c : Cont RV} : Wp (dLst ms ρ) = Wp ((ms ρ).bind fun as ρ1 => ofO ((avD as).bind fun ds => if ds.length ≤ 1000 then some (.ow (.ls ds)) else none) ρ1 : R (RV)) := rfl
@[simp ↓, simp] theorem u_dSl {ma : DM RV} {ml mh : DM (Option Int)} {c : Cont RV} : Wp (dSl ma ml mh ρ) = Wp ((ma ρ).bind fun x ρ1 => (ml ρ1).bind fun l ρ2 => (mh ρ2).bind fun u ρ3 => ofO ((look ρ3 x).bind fun d => slD d l u) ρ3 : R (RV)) := rfl
@[simp ↓, simp] theorem u_oNone {c : Cont (Option Int)} : Wp (oNone ρ) = Wp ((.ok none ρ : R (Option Int)) : R (Option Int)) := rfl
@[simp ↓, simp] theorem u_oSome {m : DM RV} {c : Cont (Option Int)} : Wp (oSome m ρ) = Wp ((m ρ).bind asPart : R (Option Int)) := rfl
@[simp ↓, simp] theorem u_lmD {i : Nat} {g : List D → List D → Option (D × List D)} {ms : DM (List AV)} {c : Cont RV} : Wp (lmD i g ms ρ) = Wp (lmK i g ms ρ[i]? ρ : R (RV)) := rfl
@[simp ↓, simp] theorem u_tgName {i : Nat} {d : D} {c : Cont Unit} : Wp (tgName i d ρ) = Wp (stow ρ i (.im d) : R (Unit)) := rfl
@[simp ↓, simp] theorem u_tYesD {c : Cont Bool} : Wp (tYesD ρ) = Wp ((.ok true ρ : R Bool) : R (Bool)) := rfl
@[simp ↓, simp] theorem u_cTurn {vs : List Nat} {gm : D → SE → R Unit} {mt : DM Bool} {me : DM RV} {d : D} {c : Cont (Option D)} : Wp (cTurn vs gm mt me d ρ) = Wp ((noEx (gm d (wipeR ρ vs))).bind fun _ ρ1 => (noEx (mt ρ1)).bind fun k ρ2 => if k = true then (noEx (dFz me ρ2)).bind fun y ρ3 => .ok (some y) (rest vs ρ ρ3) else .ok none (rest vs ρ ρ2) : R (Option D)) := rfl
@[simp ↓, simp] theorem u_dStrJoin {ma mb : DM RV} {c : Cont RV} : Wp (dStrJoin ma mb ρ) = Wp ((ma ρ).bind fun x ρ1 => joinK mb x ρ1 : R (RV)) := rfl
theorem seqK_nx {t : DM Fl} : seqK t .nx ρ = t ρ := rfl
@[simp] theorem seqK_rt {t : DM Fl} {r : RV} : seqK t (.rt r) ρ = .ok (.rt r) ρ := rfl
@[simp] theorem seqK_bk {t : DM Fl} : seqK t .bk ρ = .ok .bk ρ := rfl
@[simp] theorem seqK_ct {t : DM Fl} : seqK t .ct ρ = .ok .ct ρ := rfl
@[simp ↓, simp] theorem w_seq_nx {t : DM Fl} {c : Cont Fl} : Wp (seqK t .nx ρ) = Wp (t ρ) := congrArg (fun r : R Fl => Wp r) seqK_nx
@[simp] theorem varK_im : varK i (some (.im d)) ρ = .ok (.im d) ρ := rfl
@[simp] theorem varK_ow {io : Bool} {oc : OC} : varK i (some (.ow io oc)) ρ = .ok (.bo i) ρ := rfl
@[simp] theorem parK_two : parK i j [.d d, .d e] ρ = (stow ρ i (.im d)).bind fun _ ρ2 => (stow ρ2 j (.im e)).bind fun _ ρ3 => .ok .nx ρ3 := rfl
@[simp ↓, simp] theorem w_par {c : Cont Fl} : Wp (parK i j [.d d, .d e] ρ) = Wp ((stow ρ i (.im d)).bind fun _ ρ2 => (stow ρ2 j (.im e)).bind fun _ ρ3 => (.ok .nx ρ3 : R Fl)) := rfl
@[simp ↓, simp] theorem w_aug {g : D → D → Option RV} {m : DM RV} {c : Cont Fl} : Wp (augK i g m (some (.im d)) ρ) = Wp ((m ρ).bind fun r ρ1 => augO i ((look ρ1 r).bind fun e => g (unl d) e) ρ1) := rfl
@[simp ↓, simp] theorem w_augO {c : Cont Fl} : Wp (augO i (some (.im d)) ρ) = Wp ((stow ρ i (.im d)).bind fun _ ρ2 => (.ok .nx ρ2 : R Fl)) := rfl
@[simp] theorem chainK_f {h : D → D → Option RV} {mc : DM RV} {y : RV} : chainK h mc y (some (.im (.bl false))) ρ = .ok (.im (.bl false)) ρ := rfl
@[simp ↓, simp] theorem w_chain {h : D → D → Option RV} {mc : DM RV} {y : RV} {c : Cont RV} : Wp (chainK h mc y (some (.im (.bl true))) ρ) = Wp ((mc ρ).bind fun z ρ3 => ofO ((look ρ3 y).bind fun d => (look ρ3 z).bind fun e => h d e) ρ3) := rfl
@[simp ↓, simp] theorem w_aio {ms : DM (List AV)} {io : Bool} {oc : OC} {c : Cont (List AV)} : Wp (aioK i ms (some (.ow io oc)) ρ) = Wp ((ms ρ).bind fun as ρ2 => aioL i as ρ2[i]? ρ2) := rfl
@[simp] theorem aioL_ow {as : List AV} {io : Bool} {oc : OC} : aioL i as (some (.ow io oc)) ρ = .ok (.io i :: as) ρ := rfl
@[simp] theorem rg1K_int {k : Int} : rg1K [.int k] ρ = if rngOk k = true then .ok ((List.range k.toNat).map fun (i : Nat) => D.int (0 + (i : Int))) ρ else .bad := rfl
theorem rngOk_of {k : Int} (h1 : -1000000000000 ≤ k) (h2 : k ≤ 1000000000000) : rngOk k = true := decide_eq_true ⟨h1, h2⟩
@[simp] theorem vK_some {ds : List D} : vK (some d) ds ρ = .ok (d :: ds) ρ := rfl
@[simp ↓, simp] theorem w_lm {g : List D → List D → Option (D × List D)} {ms : DM (List AV)} {io : Bool} {ds : List D} {c : Cont RV} : Wp (lmK i g ms (some (.ow io (.ls ds))) ρ) = Wp ((ms ρ).bind fun as ρ1 => lmO i g (avD as) ρ1[i]? ρ1) := rfl
@[simp] theorem lmO_ls {g : List D → List D → Option (D × List D)} {io : Bool} {ds xs : List D} : lmO i g (some xs) (some (.ow io (.ls ds))) ρ = lmP i io (g ds xs) ρ := rfl
@[simp] theorem lmP_some {io : Bool} {es : List D} : lmP i io (some (d, es)) ρ = .ok (.im d) (ρ.set i (.ow io (.ls es))) := rfl
@[simp ↓, simp] theorem w_join {mb : DM RV} {a : Str} {c : Cont RV} : Wp (joinK mb (.im (.str a)) ρ) = Wp ((mb ρ).bind fun y ρ2 => ofO ((look ρ2 y).bind (joinD (.str a))) ρ2) := rfl
@[simp] theorem avD_nil : avD [] = some [] := rfl
@[simp] theorem avD_cons {as : List AV} : avD (.d d :: as) = (avD as).map (d :: ·) := rfl
@[simp] theorem avD_map {ds : List D} : avD (ds.map AV.d) = some ds := by
  induction ds with
  | nil => rfl
  | cons d ds ih =>
    rw [List.map_cons, avD_cons, ih]
    rfl
def lookK : Option SV → Option D
  | some (.ow _ oc) => some oc.D
  | _ => none
@[simp] theorem look_bo : look ρ (.bo i) = lookK ρ[i]? := rfl
@[simp] theorem lookK_ow {io : Bool} {oc : OC} : lookK (some (.ow io oc)) = some oc.D := rfl
def fzK (i : Nat) (o : Option SV) (ρ : SE) : R D := match o with
  | some (.ow false oc) => .ok oc.D (ρ.set i (.im oc.D))
  | _ => .bad
@[simp] theorem fz_bo : fz (.bo i) ρ = fzK i ρ[i]? ρ := rfl
@[simp] theorem fzK_ow {oc : OC} : fzK i (some (.ow false oc)) ρ = .ok oc.D (ρ.set i (.im oc.D)) := rfl
def asK (i : Nat) (o : Option SV) (ρ : SE) : R SV := match o with
  | some (.ow false oc) => .ok (.im oc.D) (ρ.set i (.im oc.D))
  | _ => .bad
@[simp] theorem asSV_bo : asSV (.bo i) ρ = asK i ρ[i]? ρ := rfl
@[simp] theorem asK_ow {oc : OC} : asK i (some (.ow false oc)) ρ = .ok (.im oc.D) (ρ.set i (.im oc.D)) := rfl
@[simp] theorem asPart_int {k : Int} : asPart (.im (.int k)) ρ = .ok (some k) ρ := rfl
@[simp] theorem iSeqs_lst {ds : List D} : iSeqs (.lst ds) ρ = .ok ds ρ := rfl
@[simp] theorem iSeqs_tup {ds : List D} : iSeqs (.tup ds) ρ = .ok ds ρ := rfl
@[simp] theorem iSeqs_scr {ns : List Int} : iSeqs (.scr ns) ρ = .ok (ns.map D.int) ρ := rfl
@[simp] theorem iSeqs_str {x : Str} : iSeqs (.str x) ρ = .ok (x.cps.toList.map fun c => D.str ⟨#[c]⟩) ρ := rfl
@[simp] theorem mRet_nx {svs : SE} : mRet svs .nx ρ = .ok (.im .non) (outs svs ρ) := rfl
@[simp] theorem mRet_im {svs : SE} : mRet svs (.rt (.im d)) ρ = .ok (.im d) (outs svs ρ) := rfl
@[simp] theorem mRet_ow {svs : SE} {oc : OC} : mRet svs (.rt (.ow oc)) ρ = .ok (.ow oc) (outs svs ρ) := rfl
def retK (svs : SE) (o : Option SV) (ρ : SE) : R RV := match o with
  | some (.ow false ds) => .ok (.ow ds) (outs svs ρ)
  | _ => .bad
@[simp] theorem mRet_bo {svs : SE} : mRet svs (.rt (.bo i)) ρ = retK svs ρ[i]? ρ := rfl
@[simp] theorem retK_ow {svs : SE} {oc : OC} : retK svs (some (.ow false oc)) ρ = .ok (.ow oc) (outs svs ρ) := rfl
@[simp] theorem outs_nil : outs [] ρ = [] := by
  cases ρ <;> rfl
@[simp] theorem outs_cons {sv sw : SV} {r s : SE} : outs (sv :: r) (sw :: s) = out1 sv sw :: outs r s := rfl
@[simp] theorem out1_im {sv : SV} : out1 (.im d) sv = .im d := by
  cases sv <;> rfl
@[simp] theorem out1_ow {oc o2 : OC} : out1 (.ow true oc) (.ow true o2) = .ow true o2 := rfl
@[simp ↓, simp] theorem w_noEx {α : Type} {r : R α} {Q : α → SE → Prop} : WP (noEx r) Q E = WP r Q noX := by
  cases r with
  | bad => exact wp_bad.trans wp_bad.symm
  | ok a ρ => exact wp_ok.trans wp_ok.symm
  | ex e ρ => exact wp_bad.trans (wp_ex (E := noX)).symm
@[simp ↓, simp] theorem w_tup {gs : List D → SE → R Unit} {ds : List D} {c : Cont Unit} : Wp (tgTup n gs (.tup ds) ρ) = Wp (if ds.length = n then gs ds ρ else .bad) := rfl
@[simp ↓, simp] theorem w_tcons {g : D → SE → R Unit} {gs : List D → SE → R Unit} {ds : List D} {c : Cont Unit} : Wp (tgCons g gs (d :: ds) ρ) = Wp ((g d ρ).bind fun _ ρ1 => gs ds ρ1) := rfl
@[simp ↓, simp] theorem w_tnil {c : Cont Unit} : Wp (tgNil [] ρ) = Wp (.ok () ρ : R Unit) := rfl
@[simp ↓, simp] theorem w_if_t {α : Type} {r s : R α} {c : Cont α} : Wp (if true = true then r else s) = Wp r := congrArg (fun r : R α => Wp r) (if_pos rfl)
@[simp ↓, simp] theorem w_if_f {α : Type} {r s : R α} {c : Cont α} : Wp (if false = true then r else s) = Wp s := congrArg (fun r : R α => Wp r) (if_neg Bool.false_ne_true)
@[simp ↓, simp] theorem w_out {mF : SE → R RV} {ok : Str → Bool} {mb : DM RV} {Q : RV → SE → Prop} : WP (dOut mF ok mb ρ) Q E = WP (mb ρ) (fun r ρ1 => WP (fz r ρ1) (fun d ρ2 => Q (.im (.tup [.str "", d])) ρ2) E) (fun e ρ1 => WP (outEx mF ok e ρ1) Q E) := by
  unfold dOut
  cases mb ρ with
  | bad => exact wp_bad.trans wp_bad.symm
  | ok r ρ1 =>
    rw [wp_ok]
    exact wp_bind.trans (by simp only [wp_ok])
  | ex e ρ1 => exact (wp_ex (E := fun e ρ1 => WP (outEx mF ok e ρ1) Q E)).symm
@[simp] theorem putD_nil {x : Str} : putD x d [] = [(x, d)] := rfl
@[simp] theorem putD_cons {x y : Str} {fs : List (Str × D)} : putD x d ((y, e) :: fs) = if y = x then (y, d) :: fs else (y, e) :: putD x d fs := rfl
@[simp] theorem wipeR_nil : wipeR ρ [] = ρ := rfl
@[simp] theorem wipeR_cons {v : Nat} {vs : List Nat} : wipeR ρ (v :: vs) = (wipeR ρ vs).set v .no := rfl
@[simp] theorem addO_some {acc : List D} : addO acc (some d) = acc ++ [d] := rfl
@[simp] theorem addO_none {acc : List D} : addO acc none = acc := rfl
end
end DL

/- part -/
set_option Elab.async false
set_option linter.all false
set_option maxRecDepth 100000
set_option maxHeartbeats 1000000
namespace DL
open PySem PySem.Spec PyProof.Rows L2
section
variable {i j k : Int} {x : Str} {ds : List D} {d e : D} {ns : List Int} {ρ : SE}
@[simp] theorem negD_intA : negD (.int i) = some (.im (.int (-i))) := rfl
@[simp] theorem cutL_from {α : Type} {xs : List α} (h : 0 ≤ k) : cutL xs (some k) none = xs.drop k.toNat := by
  obtain ⟨n, rfl⟩ := Int.eq_ofNat_of_zero_le h
  have e := HT.sIx_nat xs.length 0 n
  unfold cutL
  rw [HT.sIx_none]
  show (xs.drop (HT.sIx xs.length 0 (some (n : Int)))).take (xs.length - HT.sIx xs.length 0 (some (n : Int))) = _
  rw [e, Int.toNat_natCast]
  by_cases hn : n ≤ xs.length
  · rw [Nat.min_eq_left hn, List.take_of_length_le (by rw [List.length_drop]; exact Nat.le_refl _)]
  · rw [Nat.min_eq_right (by omega), List.drop_length, List.drop_of_length_le (by omega)]
    simp
@[simp] theorem cutL_to {α : Type} {xs : List α} (h : 0 ≤ k) : cutL xs none (some k) = xs.take k.toNat := by
  obtain ⟨n, rfl⟩ := Int.eq_ofNat_of_zero_le h
  have e := HT.sIx_nat xs.length xs.length n
  unfold cutL
  rw [HT.sIx_none]
  show (xs.drop 0).take (HT.sIx xs.length xs.length (some (n : Int)) - 0) = _
  rw [e, Int.toNat_natCast, Nat.sub_zero, List.drop_zero]
  by_cases hn : n ≤ xs.length
  · rw [Nat.min_eq_left hn]
  · rw [Nat.min_eq_right (by omega), List.take_of_length_le (by omega), List.take_of_length_le (by omega)]
@[simp] theorem slD_tupA {lo hi : Option Int} : slD (.tup ds) lo hi = some (.im (.tup (cutL ds lo hi))) := rfl
@[simp] theorem gList_tupA : gList [.tup ds] = some (.ow (.ls ds)) := rfl
@[simp] theorem gAbs_intA : gAbs [.int i] = some (.im (.int ((i.natAbs : Nat) : Int))) := by
  show some (RV.im (.int (if i < 0 then -i else i))) = _
  congr 3
  split <;> omega
theorem gAll_of {bs : List Bool} {ys : List D} (h : ys = bs.map D.bl) : gAll [.lst ys] = some (.im (.bl (bs.all id))) := by
  subst h
  show (asBls (bs.map D.bl)).map (fun bs => RV.im (.bl (bs.all id))) = _
  rw [asBls_map]
  rfl
end
section
variable {α : Type} {ρ : SE} {Q : List D → SE → Prop} {E : Exc → SE → Prop} {vs : List Nat} {gm : D → SE → R Unit} {mt : DM Bool} {me : DM RV} {ds : List D}
end
end DL

/- part -/
set_option Elab.async false
set_option linter.all false
set_option maxRecDepth 100000
set_option maxHeartbeats 1000000
namespace DL
open PySem PySem.Spec PyProof.Rows L2
section
variable {X : Cx} {pins : List (Addr × Obj)} {σ : L2.St} {H : Hp} {s : Shared} {Q : VK} {us : List Value} {vs : List V} {k : Nat} {C f a : Addr} {fd : FuncData} {ps : List Str} {sp : Sp} {A : Around}
end
end DL

/- part -/
set_option Elab.async false
set_option linter.all false
set_option maxRecDepth 100000
set_option maxHeartbeats 1000000
namespace DL
open PySem PySem.Spec PyProof.Rows L2
section
variable {prog : Program} {w : World} {A : Around} {E : Value → Shared → Prop} {s : Shared} {K : PySem.W.Frag} {x C f L : Addr} {ox : Obj} {od : Option Obj} {b tb : Value} {h0 : Heap} {m : Str → Option Value}
end
section
variable {X : Cx} {pins : List (Addr × Obj)} {σ : L2.St} {H : Hp} {s : Shared} {Q : VK} {us : List Value} {vs : List V} {k : Nat} {C f a : Addr} {fd : FuncData} {ps : List Str} {sp : Sp} {A : Around}
end
end DL

/- part -/
set_option Elab.async false
set_option linter.all false
set_option maxRecDepth 100000
set_option maxHeartbeats 1000000
namespace DL
open PySem PySem.Spec PyProof.Rows L2
section
variable {M : Mx} {W : WX} {X : Cx} {F H F' H' F1 H1 F2 H2 H0 : Hp} {σ : L2.St} {ρ ρ1 ρ2 : SE}
variable {P : Program} {w : World} {base : Heap} {N : List Str} {sc : Scope} {j k : Nat}
variable {a b c e : Expr} {ma mb m : DM RV} {es : List Expr} {ms : DM (List AV)} {pos p p' q : Pos} {cl : Str} {mm : SE → R RV}
end
end DL

/- part -/
set_option Elab.async false
set_option linter.all false
set_option maxRecDepth 100000
set_option maxHeartbeats 1000000
namespace DL
open PySem PySem.Spec PyProof.Rows L2
section
variable {M : Mx} {F H F' H' F1 H1 : Hp} {a : Addr} {n : Nat} {vs : List V}
end
section
variable {M : Mx} {W : WX} {F H F' H' F1 H1 : Hp} {σ : L2.St} {ρ ρ' : SE} {a : Addr} {n i : Nat} {vs : List V} {xs : List D} {io : Bool}
end
end DL

/- part -/
set_option Elab.async false
set_option linter.all false
set_option maxRecDepth 100000
set_option maxHeartbeats 1000000
namespace DL
open PySem PySem.Spec PyProof.Rows L2
section
variable {M : Mx} {W : WX} {X : Cx} {F H F' H' F1 H1 F2 H2 H0 : Hp} {σ σ1 : L2.St} {ρ ρ1 ρ2 : SE}
variable {a b : Expr} {ma mb : DM RV} {pos : Pos}
theorem svOk_step {v : V} {sv : SV} (ok : SvOk M H0 F1 H1 σ ρ1 v sv) (st : Stp F1 H1 σ ρ1 F2 H2 σ ρ2) : SvOk M H0 F2 H2 σ ρ2 v sv := by
  cases sv with
  | no => exact ok
  | im d => exact Rep.up st.same ok
  | ow io oc =>
    cases io with
    | true => exact ok
    | false =>
      obtain ⟨a, o, e, h1, h2, h3, h4, h5⟩ := ok
      refine ⟨a, o, e, st.keep _ _ h1 h4 h3.nt, ?_, h3.up st.same, fun z => ?_, h5⟩
      · cases e2 : F2 a with
        | none => rfl
        | some u =>
          rcases st.newF a u e2 with z | z | z
          · rw [h2] at z
            cases z
          · exact (h4 z).elim
          · exact (z.no h1 h3.nt).elim
      · rcases st.new a z with z | z
        · exact h4 z
        · exact z.no h1 h3.nt
end
section
variable {P : Program} {w : World} {base : Heap} {N : List Str} {sc : Scope} {jj : Nat} {M : Mx} {W : WX} {X : Cx} {a b : Expr} {ma mb : DM RV} {pos : Pos}
end
section
variable {ρ : SE} {d e : D} {i j n : Nat} {x : Str} {mm : SE → R RV} {fs : List (Str × D)} {r : R RV} {Q : RV → SE → Prop} {E : Exc → SE → Prop}
end
end DL

/- part -/
set_option Elab.async false
set_option linter.all false
set_option maxRecDepth 100000
set_option maxHeartbeats 1000000
namespace DL
open PySem PySem.Spec PyProof.Rows L2
mutual
def pg : Nat → D → Bool
  | 0, _ => false
  | _ + 1, .non => true
  | _ + 1, .bl _ => true
  | _ + 1, .int _ => true
  | _ + 1, .str x => x.cps.all (· < 0x110000)
  | n + 1, .tup ds => pgs n ds
  | n + 1, .lst ds => pgs n ds
  | _ + 1, _ => false
def pgs : Nat → List D → Bool
  | _, [] => true
  | n, d :: r => pg n d && pgs n r
end
mutual
theorem pg_up : ∀ (n : Nat) (d : D), pg n d = true → pg (n + 1) d = true
  | 0, d, h => by
    unfold pg at h
    cases h
  | n + 1, d, h => by
    cases d with
    | tup ds =>
      unfold pg at h ⊢
      exact pgs_up n ds h
    | lst ds =>
      unfold pg at h ⊢
      exact pgs_up n ds h
    | _ =>
      unfold pg at h ⊢
      exact h
theorem pgs_up : ∀ (n : Nat) (ds : List D), pgs n ds = true → pgs (n + 1) ds = true
  | n, [], h => by
    unfold pgs
    rfl
  | n, d :: r, h => by
    unfold pgs at h ⊢
    obtain ⟨h1, h2⟩ := Bool.and_eq_true_iff.mp h
    rw [pg_up n d h1, pgs_up n r h2]
    rfl
end
theorem pg_le {n m : Nat} {d : D} (h : pg n d = true) (hm : n ≤ m) : pg m d = true := by
  induction hm with
  | refl => exact h
  | step _ ih => exact pg_up _ _ ih
mutual
theorem pg_all : ∀ (n : Nat) (d : D), pg n d = true → plain n d = true ∧ (toPy d).canLay0 = true ∧ (toPy d).depth ≤ n
  | 0, d, h => by
    unfold pg at h
    cases h
  | n + 1, d, h => by
    cases d with
    | tup ds =>
      unfold pg at h
      obtain ⟨h1, h2, h3⟩ := pgs_all n ds h
      unfold plain toPy
      refine ⟨h1, ?_, ?_⟩
      · simp only [PyData.canLay0]
        exact h2
      · simp only [PyData.depth]
        omega
    | lst ds =>
      unfold pg at h
      obtain ⟨h1, h2, h3⟩ := pgs_all n ds h
      unfold plain toPy
      refine ⟨h1, ?_, ?_⟩
      · simp only [PyData.canLay0]
        exact h2
      · simp only [PyData.depth]
        omega
    | str x =>
      unfold pg at h
      refine ⟨rfl, h, ?_⟩
      show _ ≤ _
      simp [toPy, PyData.depth]
    | non => exact ⟨rfl, rfl, by simp [toPy, PyData.depth]⟩
    | bl b => exact ⟨rfl, rfl, by simp [toPy, PyData.depth]⟩
    | int b => exact ⟨rfl, rfl, by simp [toPy, PyData.depth]⟩
    | _ =>
      unfold pg at h
      cases h
theorem pgs_all : ∀ (n : Nat) (ds : List D), pgs n ds = true → plains n ds = true ∧ PyData.canLayAll0 (toPys ds) = true ∧ PyData.depthAll (toPys ds) ≤ n
  | n, [], h => ⟨by unfold plains; rfl, by unfold toPys; rfl, by unfold toPys; simp [PyData.depthAll]⟩
  | n, d :: r, h => by
    unfold pgs at h
    obtain ⟨h1, h2⟩ := Bool.and_eq_true_iff.mp h
    obtain ⟨a1, a2, a3⟩ := pg_all n d h1
    obtain ⟨b1, b2, b3⟩ := pgs_all n r h2
    unfold plains toPys
    refine ⟨by rw [a1, b1]; rfl, ?_, ?_⟩
    · simp only [PyData.canLayAll0]
      rw [a2, b2]
      rfl
    · simp only [PyData.depthAll]
      omega
end
theorem okc_of {n : Nat} {d : D} (h : pg n d = true) (hn : n ≤ 64) : okc d = true := by
  obtain ⟨a, b, c⟩ := pg_all 64 d (pg_le h hn)
  unfold okc SeqAt.shaped
  rw [a, b, decide_eq_true c]
  rfl
theorem eqv_self {n : Nat} {d : D} (h : pg n d = true) (hn : n ≤ 64) : eqv d d = true := by
  have := okc_of h hn
  unfold okc at this
  exact SeqAt.eqv_refl _ (SeqAt.canLay_of_shaped (Bool.and_eq_true_iff.mp this).2)
theorem eq_self {n : Nat} {d : D} (h : pg n d = true) (hn : n ≤ 64) : eqD d d = some (.im (.bl true)) := by
  unfold eqD
  rw [okc_of h hn, eqv_self h hn]
  rfl
theorem ne_self {n : Nat} {d : D} (h : pg n d = true) (hn : n ≤ 64) : neD d d = some (.im (.bl false)) := by
  unfold neD
  rw [okc_of h hn, eqv_self h hn]
  rfl
theorem eq_any {n : Nat} {d e : D} (h : pg n d = true) (h2 : pg n e = true) (hn : n ≤ 64) : eqD d e = some (.im (.bl (eqv d e))) := by
  unfold eqD
  rw [okc_of h hn, okc_of h2 hn]
  rfl
theorem ne_any {n : Nat} {d e : D} (h : pg n d = true) (h2 : pg n e = true) (hn : n ≤ 64) : neD d e = some (.im (.bl (!eqv d e))) := by
  unfold neD
  rw [okc_of h hn, okc_of h2 hn]
  rfl
@[simp] theorem addD_lstA {a b : List D} (h : a.length + b.length ≤ 1000000) : addD (.lst a) (.lst b) = some (.ow (.ls (a ++ b))) := if_pos h
@[simp] theorem addD_tupA {a b : List D} (h : a.length + b.length ≤ 1000000) : addD (.tup a) (.tup b) = some (.im (.tup (a ++ b))) := if_pos h
theorem addD_strA {a b : Str} (h : a.length + b.length ≤ 1000000) : addD (.str a) (.str b) = some (.im (.str (a ++ b))) := if_pos h
section
variable {α : Type} {r : R α} {ρ : SE} {Q : α → SE → Prop} {E : Exc → SE → Prop}
theorem wp_floopJ {gm : D → SE → R Unit} {b : DM Fl} {Q : Fl → SE → Prop} {ds : List D} (I : Nat → SE → Prop) (h0 : I 0 ρ) (hs : ∀ i d ρ (J : SE → Prop), ds[i]? = some d → I i ρ → (∀ ρ, I (i + 1) ρ → J ρ) → WP (gm d ρ) (fun _ ρ1 => WP (b ρ1) (loopQ Q J) E) E) (hd : ∀ ρ, I ds.length ρ → Q .nx ρ) : WP (floop gm b ds ρ) Q E :=
  wp_floop I h0 (fun i d ρ e h => hs i d ρ _ e h fun _ z => z) hd
theorem wp_cloopJ {vs : List Nat} {gm : D → SE → R Unit} {mt : DM Bool} {me : DM RV} {Q : List D → SE → Prop} {ds : List D} (I : Nat → List D → SE → Prop) (hz : ds.length ≤ 1000000) (h0 : I 0 [] ρ) (hw : ∀ i acc ρ, I i acc ρ → noOw ρ vs = true ∧ acc.length ≤ i)
    (hs : ∀ i d acc ρ (J : List D → SE → Prop), ds[i]? = some d → I i acc ρ → (∀ a ρ, I (i + 1) a ρ → J a ρ) → WP (cTurn vs gm mt me d ρ) (fun o ρ1 => J (addO acc o) ρ1) E) (hd : ∀ acc ρ, I ds.length acc ρ → Q acc ρ) : WP (cLoop vs gm mt me ds [] ρ) Q E :=
  wp_cloop I hz h0 hw (fun i d acc ρ e h => hs i d acc ρ (I (i + 1)) e h fun _ _ z => z) hd
end
end DL

/- part -/
set_option Elab.async false
set_option linter.all false
set_option maxRecDepth 100000
set_option maxHeartbeats 1000000
namespace DL
open PySem PySem.Spec PyProof.Rows L2
section
variable {prog : Program} {w : World} {A : Around} {E : Value → Shared → Prop} {s : Shared}
def ZtSt (h : Heap) (q ti to i1 i2 l1 l2 S : Addr) (xs ys : Array Value) (i : Nat) : Prop :=
  PySem.IsPair h ti (.ref i1) (.ref i2) ∧ h.IsTupleIter i1 l1 i ∧ h.IsTupleIter i2 l2 i ∧ h.IsTuple l1 xs ∧ h.IsTuple l2 ys ∧
  ((IsZip h q ti to .none ∧ ∃ a b, PySem.IsPair h to a b) ∨ ∃ u f ou, IsZipHeld h q ti to u f ∧ h.get? u = some ou ∧ u ≠ q ∧ u ≠ i1 ∧ u ≠ i2 ∧ u ≠ S)
structure ZtAp (q ti to i1 i2 l1 l2 S : Addr) : Prop where
  D : ZipApart q ti to i1 i2 l1 l2
  qS : q ≠ S
  tiS : ti ≠ S
  toS : to ≠ S
  i1S : i1 ≠ S
  i2S : i2 ≠ S
  l1S : l1 ≠ S
  l2S : l2 ≠ S
theorem ZtSt.keep {h h' : Heap} {q ti to i1 i2 l1 l2 S : Addr} {xs ys : Array Value} {i : Nat} (B : ZtAp q ti to i1 i2 l1 l2 S) (x : ZtSt h q ti to i1 i2 l1 l2 S xs ys i) (hk : ∀ b o, b ≠ S → h.get? b = some o → h'.get? b = some o) : ZtSt h' q ti to i1 i2 l1 l2 S xs ys i := by
  obtain ⟨a1, a2, a3, a4, a5, a6⟩ := x
  refine ⟨hk _ _ B.tiS a1, a2.at fun o e => hk _ o B.i1S e, a3.at fun o e => hk _ o B.i2S e, a4.at fun o e => hk _ o B.l1S e, a5.at fun o e => hk _ o B.l2S e, ?_⟩
  rcases a6 with ⟨z1, a, b, z2⟩ | ⟨u, f, ou, z1, z2, n1, n2, n3, n4⟩
  · exact .inl ⟨hk _ _ B.qS z1, a, b, hk _ _ B.toS z2⟩
  · exact .inr ⟨u, f, ou, hk _ _ B.qS z1, hk _ _ n4 z2, n1, n2, n3, n4⟩
end
end DL

/- part -/
set_option Elab.async false
set_option linter.all false
set_option maxRecDepth 100000
set_option maxHeartbeats 1000000
namespace DL
open PySem PySem.Spec PyProof.Rows L2
structure ZtG (xs ys : Array Value) (lo : Addr) (h : Heap) (as : List Addr) : Prop where
  rise : as.Pairwise (· < ·)
  above : ∀ a ∈ as, lo < a
  pairs : ∀ (j : Nat) (a : Addr), as[j]? = some a → ∃ x y, xs[j]? = some x ∧ ys[j]? = some y ∧ PySem.IsPair h a x y
theorem ZtG.there {xs ys : Array Value} {lo : Addr} {h : Heap} {as : List Addr} (g : ZtG xs ys lo h as) {a : Addr} (ha : a ∈ as) : a < h.objs.size := by
  obtain ⟨j, hj⟩ := List.mem_iff_getElem?.mp ha
  obtain ⟨_, _, _, _, e⟩ := g.pairs j a hj
  exact Heap.lt_size e
section
variable {prog : Program} {w : World} {A : Around} {E : Value → Shared → Prop} {s : Shared} {R : Result → Shared → Prop}
end
namespace F2
end F2
section
variable {prog : Program} {w : World} {A : Around} {E : Value → Shared → Prop} {s : Shared} {R : Result → Shared → Prop}
end
end DL

/- part -/
set_option Elab.async false
set_option linter.all false
set_option maxRecDepth 100000
set_option maxHeartbeats 1000000
namespace DL
open PySem PySem.Spec PyProof.Rows L2
section
variable {M : Mx} {W : WX} {X : Cx} {F H F' H' F1 H1 : Hp} {σ : L2.St} {s : Shared} {h' : Heap} {pins : List (Addr × Obj)}
end
section
variable {P : Program} {w : World} {base : Heap} {N : List Str} {sc : Scope} {j : Nat} {M : Mx} {W : WX} {X : Cx} {F H F' H' F1 H1 : Hp} {σ : L2.St} {s : Shared} {h' : Heap} {pins : List (Addr × Obj)}
variable {a b c e : Expr} {ma mb mc m : DM RV} {es : List Expr} {pos p p2 q : Pos} {ta tb : TE}
end
end DL

/- part -/
set_option Elab.async false
set_option linter.all false
set_option maxRecDepth 100000
set_option maxHeartbeats 1000000
namespace DL
open PySem PySem.Spec PyProof.Rows L2
def tI (n : Int) : Str := Str.ofString (toString n)
theorem lit_ok (s : String) : (Str.ofString s).cps.all (· < 0x110000) = true := by
  rw [Str.ofString_eq_toList]
  rw [Array.all_eq_true']
  intro c hc
  have hc : c ∈ (s.toList.map Char.toNat).toArray := hc
  obtain ⟨ch, _, rfl⟩ := List.mem_map.mp (by simpa using hc)
  have h2 : ch.toNat < 0x110000 := by
    rcases ch.valid with z | ⟨_, z⟩
    · exact Nat.lt_trans z (by decide)
    · exact z
  exact decide_eq_true h2
theorem log_small {n : Nat} (h : n < 2 ^ 64) : n.log2 < 1920 := by
  by_cases z : n = 0
  · subst z
    decide
  · exact Nat.lt_trans ((Nat.log2_lt z).mpr h) (by decide)
theorem gStr_int {n : Int} (h : n.natAbs.log2 < 1920) : gStr [.int n] = some (.im (.str (tI n))) := if_pos h
section
variable {ρ : SE} {Q : RV → SE → Prop} {E : Exc → SE → Prop} {m : DM RV} {ms : List (DM RV)} {acc y : Str}
end
end DL

/- part -/
set_option Elab.async false
set_option linter.all false
set_option maxRecDepth 100000
set_option maxHeartbeats 1000000
namespace DL
open PySem PySem.Spec PyProof.Rows L2
section
variable {X : Cx} {pins : List (Addr × Obj)} {σ : L2.St} {H HZ : Hp} {s s1 : Shared}
end
end DL

/- part -/
set_option Elab.async false
set_option linter.all false
set_option maxRecDepth 100000
set_option maxHeartbeats 1000000
namespace DL
open PySem PySem.Spec PyProof.Rows L2
section
variable {X : Cx}
end
section
variable {P : Program} {w : World} {base : Heap} {N : List Str} {sc : Scope} {j : Nat}
variable {M : Mx} {W : WX} {X : Cx} {F H F' H' F1 H1 F2 H2 H0 : Hp} {σ σ1 : L2.St} {ρ ρ1 ρ2 : SE}
end
end DL

/- part -/
set_option Elab.async false
set_option linter.all false
set_option maxRecDepth 100000
set_option maxHeartbeats 1000000
namespace DL
open PySem PySem.Spec PyProof.Rows L2
section
variable {M : Model} {A : Around} {E : Value → Shared → Prop} {s : Shared} {qual : Str} {params : Arguments} {body : Expr} {scope : Scope} {env : Env} {c P T : Addr} {ps : Array Value} {pos : Pos} {firstLine : Nat} {mg : Str → Option Value}
  {clos : List (Str × Addr)} {Q : Value → Shared → Prop}
end
section
variable {X : Cx} {pins : List (Addr × Obj)} {σ : L2.St} {H : Hp} {s : Shared}
end
end DL

/- part -/
set_option Elab.async false
set_option linter.all false
set_option maxRecDepth 100000
set_option maxHeartbeats 1000000
namespace DL
open PySem PySem.Spec PyProof.Rows L2
structure LamD (sc scope : Scope) (a : Str) : Prop where
  kind : scope.kind = .function
  co : scope.isCoroutine = false
  gen : scope.isGenerator = false
  par : scope.names.lookup a = some .local
  own : ∀ y ∈ scope.names, y.2 ≠ .cell ∧ (y.2 = .local → y.1 = a)
  free : ∀ y ∈ scope.names, y.2 = .free → sc.names.lookup y.1 = some .cell ∨ sc.names.lookup y.1 = some .free
theorem LamD.has {X : Cx} {scope : Scope} {a : Str} (L : LamD X.env.scope scope a) (ok : X.Ok) : ∀ y ∈ scope.names, y.2 = .free → ∃ c, X.env.cells.lookup y.1 = some c := fun y hy e => (L.free y hy e).elim (fun k => ok.has _ (.inl k)) fun k => ok.has _ (.inr k)
section
variable {X : Cx} {pins : List (Addr × Obj)} {σ : L2.St} {H HZ : Hp} {s s1 : Shared}
end
end DL

/- part -/
set_option Elab.async false
set_option linter.all false
set_option maxRecDepth 100000
set_option maxHeartbeats 1000000
namespace DL
open PySem PySem.Spec PyProof.Rows L2
section
variable {X : Cx}
end
section
variable {P : Program} {w : World} {base : Heap} {N : List Str} {sc : Scope} {j : Nat}
variable {M : Mx} {W : WX} {X : Cx} {F H F' H' F1 H1 F2 H2 H0 : Hp} {σ σ1 : L2.St} {ρ ρ1 ρ2 : SE}
end
end DL

/- part -/
set_option Elab.async false
set_option linter.all false
set_option maxRecDepth 100000
set_option maxHeartbeats 1000000
namespace DL
open PySem PySem.Spec PyProof.Rows L2
section
variable {α : Type} {ρ : SE} {Q : List D → SE → Prop} {E : Exc → SE → Prop} {vs : List Nat} {gm : D → SE → R Unit} {mt : DM Bool} {me : DM RV} {ds : List D}
end
end DL

/- part -/
set_option Elab.async false
set_option linter.all false
set_option maxRecDepth 100000
set_option maxHeartbeats 1000000
namespace DL
open PySem PySem.Spec PyProof.Rows L2
section
variable {P : Program} {w : World} {base : Heap} {N : List Str} {sc : Scope} {j : Nat} {M : Mx} {W : WX} {X : Cx} {F H F' H' F1 H1 : Hp} {σ : L2.St} {ρ ρ1 : SE}
variable {e : Expr} {m : DM RV} {p pos : Pos}
end
section
variable {ρ : SE} {g : List D → List D → Option (D × List D)} {m : DM RV} {ds : List D}
end
end DL

/- part -/
set_option Elab.async false
set_option linter.all false
set_option maxRecDepth 100000
set_option maxHeartbeats 1000000
namespace DL
open PySem PySem.Spec PyProof.Rows L2
section
variable {P : Program} {w : World} {base : Heap} {N : List Str} {sc : Scope} {j : Nat} {M : Mx} {W : WX} {X : Cx} {m : DM RV}
end
end DL

/- part -/
set_option Elab.async false
set_option linter.all false
set_option maxRecDepth 100000
set_option maxHeartbeats 4000000
namespace DL
open PySem PySem.Spec PyProof.Rows L2
def SqK (K : PySem.W.Frag) (f : Bool) (H : Hp) (a : Addr) (xs : List V) : Prop := match f with
  | true => SqT K H a xs
  | false => SqL K H a xs
def IkAt (f : Bool) (h : Heap) (it a : Addr) (i : Nat) : Prop := match f with
  | true => h.IsTupleIter it a i
  | false => h.IsListIter it a i
def IkOf (f : Bool) (h : Heap) (a : Addr) (us : Array Value) : Prop := match f with
  | true => h.IsTuple a us
  | false => h.IsList a us
def IkOb (f : Bool) (a : Addr) : Obj := match f with
  | true => { cls := .type "tuple_iterator", data := .fields #[.ref a, .int 0 0] }
  | false => { cls := .type "list_iterator", data := .fields #[.ref a, .int 0 0] }
section
variable {P : Program} {w : World} {A : Around} {h h' : Heap} {it l a b : Addr} {f g : Bool} {i : Nat} {us : Array Value}
theorem ik_draws (hh : A.handled = none) (ne : l ≠ it) : Draws P w A it [it, l] us.size (fun i v => us[i]? = some v) (fun i h => IkAt f h it l i ∧ IkOf f h l us) := match f with
  | true => Draws.tuple hh it l ne us
  | false => Draws.list hh it l ne us
theorem ik_begins : Begins (.ref l) (IkOb f l) (fun h => IkOf f h l us) := match f with
  | true => begins_tuple l us
  | false => begins_list l us
theorem ik_first (e : h.get? it = some (IkOb f l)) : IkAt f h it l 0 := match f, e with
  | true, e => ⟨_, e, rfl, rfl⟩
  | false, e => ⟨_, e, rfl, rfl⟩
theorem ik_get (x : IkAt f h it l i) : ∃ o, h.get? it = some o ∧ ∀ v, o.data ≠ .cell v := by
  cases f
  all_goals
    obtain ⟨o, e, _, d⟩ := x
    exact ⟨o, e, fun v z => by
      rw [d] at z
      cases z⟩
theorem ik_keep (x : IkAt f h it l i) (k : ∀ o, h.get? it = some o → h'.get? it = some o) : IkAt f h' it l i := match f, x with
  | true, x => x.at k
  | false, x => x.at k
theorem ik_of (x : IkOf f h l us) (k : ∀ o, h.get? l = some o → h'.get? l = some o) : IkOf f h' l us := match f, x with
  | true, x => x.at k
  | false, x => x.at k
theorem ik_stop (hh : A.handled = none) (e : us[i]? = none) : Draws P w A it [it, l] i (fun _ _ => True) (fun j h => j = i ∧ IkAt f h it l i ∧ IkOf f h l us) where
  live := fun _ _ st => by
    obtain ⟨o, g, _⟩ := ik_get st.2.1
    exact ⟨o, g⟩
  frame := fun _ _ _ st hk => ⟨st.1, ik_keep st.2.1 fun o g => hk it List.mem_cons_self o g, ik_of st.2.2 fun o g => hk l (List.mem_cons_of_mem _ List.mem_cons_self) o g⟩
  item := fun j s Q E lt st => absurd st.1 (Nat.ne_of_lt lt)
  done := fun s Q E st want => by
    obtain ⟨_, st1, st2⟩ := st
    cases f
    · exact wpAny_nextOf_list_end hh st1 st2 e want
    · exact wpAny_nextOf_tuple_end hh st1 st2 e want
theorem ik_any (hh : A.handled = none) (ne : l ≠ it) (us : Array Value) (i : Nat) : ∃ n Pd St, Draws P w A it [it, l] n Pd St ∧ (∀ h, IkAt f h it l i → IkOf f h l us → St i h) ∧ i ≤ n ∧ (us[i]? = none → i = n) := by
  cases e : us[i]? with
  | none => exact ⟨_, _, _, ik_stop (f := f) (l := l) hh e, fun h x y => ⟨rfl, x, y⟩, Nat.le_refl _, fun _ => rfl⟩
  | some v => exact ⟨_, _, _, ik_draws (f := f) hh ne, fun h x y => ⟨x, y⟩, Nat.le_of_lt (Array.getElem?_eq_some_iff.mp e).1, fun z => nomatch z⟩
end
section
variable {X : Cx} {pins : List (Addr × Obj)} {σ : L2.St} {H : Hp} {s : Shared} {a b : Addr} {f g : Bool} {xs ys : List V}
theorem sqK_inv (I : Inv X pins σ H s) (q : SqK X.K f H a xs) : ∃ us : List Value, Vals xs us ∧ IkOf f s.heap a us.toArray ∧ a < s.heap.objs.size := by
  cases f
  · obtain ⟨us, r, p, _⟩ := I.list q
    exact ⟨us, r, p.isList, p.lt⟩
  · obtain ⟨us, r, p, _⟩ := I.tuple q
    obtain ⟨o, e, _⟩ := id p
    exact ⟨us, r, p, Heap.lt_size e⟩
theorem sqK_inj (I : Inv X pins σ H s) (q1 : SqK X.K f H a xs) (q2 : SqK X.K f H a ys) : xs = ys := by
  cases f
  · exact I.list_inj q1 q2
  · exact I.tuple_inj q1 q2
end
def ItzM (K : PySem.W.Frag) (f g : Bool) (a b : Addr) : It where
  go := fun i H => ∃ (xs ys : List V) (x y : V), (SqK K f H a xs ∧ xs[i]? = some x) ∧ SqK K g H b ys ∧ ys[i]? = some y
  yld := fun i H v H' => ∃ T x y, (v = .ref T ∧ H T = none ∧ H' = upd H T (.tup [x, y])) ∧ (∀ xs, SqK K f H a xs → xs[i]? = some x) ∧ ∀ ys, SqK K g H b ys → ys[i]? = some y
  stop := fun i H => ∃ xs ys : List V, (SqK K f H a xs ∧ SqK K g H b ys) ∧ (xs.length ≤ i ∨ ys.length ≤ i)
theorem neA {x y : Nat} (h : x < y ∨ y < x) : ¬ (@Eq Addr x y) := fun e => by
  have e2 : @Eq Nat x y := e
  omega
theorem niA {x y z : Nat} (h1 : x < y ∨ y < x) (h2 : x < z ∨ z < x) : ¬ (@Membership.mem Addr (List Addr) _ [y, z] x) := fun m => by
  rcases List.mem_cons.mp m with e | m
  · exact neA h1 e
  · exact neA h2 (List.mem_singleton.mp m)
theorem sep_new (n a b : Nat) (h1 : a < n) (h2 : b < n) : ZipSep2 (n + 4) (n + 2) (n + 3) n (n + 1) [n, a] [n + 1, b] where
  TIz := neA (by omega)
  TOz := neA (by omega)
  TITO := neA (by omega)
  TIi1 := neA (by omega)
  mem1 := List.mem_cons_self
  zf1 := niA (by omega) (by omega)
  Tf1 := niA (by omega) (by omega)
  TIi2 := neA (by omega)
  mem2 := List.mem_cons_self
  zf2 := niA (by omega) (by omega)
  Tf2 := niA (by omega) (by omega)
  sep1_2 := niA (by omega) (by omega)
  sep2_1 := niA (by omega) (by omega)
structure ZmSt (f g : Bool) (z ti to j1 j2 a b : Addr) (i : Nat) (h : Heap) : Prop where
  z : IsZip h z ti to .none
  ti : IsTupOf2 h ti (.ref j1) (.ref j2)
  to : ∃ u v, IsTupOf2 h to u v
  a : IkAt f h j1 a i
  b : IkAt g h j2 b i
theorem in5 {c z ti to j1 j2 : Addr} (h : c ∈ [z, ti, to, j1, j2]) : c = z ∨ c = ti ∨ c = to ∨ c = j1 ∨ c = j2 := by simpa using h
theorem nin5 {c z ti to j1 j2 : Addr} (h : c ∉ [z, ti, to, j1, j2]) : c ≠ z ∧ c ≠ to ∧ c ≠ j1 ∧ c ≠ j2 := by
  simp only [List.mem_cons, List.not_mem_nil, or_false, not_or] at h
  exact ⟨h.1, h.2.2.1, h.2.2.2.1, h.2.2.2.2⟩
theorem turn_zm {P : Program} {w : World} {K : PySem.W.Frag} {elts : List Expr} {kk : Nat} {tpos : Pos} {a b z ti to j1 j2 : Addr} {f g : Bool} (S : ZipSep2 z ti to j1 j2 [j1, a] [j2, b]) (na : a ≠ j1) (nb : b ≠ j2) :
    Turn P w K (.Tuple elts kk tpos) (ItzM K f g a b) [z, ti, to, j1, j2] z (ZmSt f g z ti to j1 j2 a b) where
  mem := List.mem_cons_self
  obj := fun i h st c hc => by
    obtain ⟨_, _, t⟩ := st.to
    rcases in5 hc with e | e | e | e | e <;> rw [e]
    · exact ⟨_, st.z, fun _ q => nomatch q⟩
    · exact ⟨_, st.ti, fun _ q => nomatch q⟩
    · exact ⟨_, t, fun _ q => nomatch q⟩
    · exact ik_get st.a
    · exact ik_get st.b
  keep := fun i h h' st k => by
    obtain ⟨u, v, t⟩ := st.to
    exact ⟨k z (by simp) _ st.z, k ti (by simp) _ st.ti, ⟨u, v, k to (by simp) _ t⟩, ik_keep st.a fun o e => k j1 (by simp) o e, ik_keep st.b fun o e => k j2 (by simp) o e⟩
  item := by
    intro X hP hw hK hc i pins s σ H E I free st hg
    subst hP hw hK
    obtain ⟨xs, ys, x, y, ⟨q1, ex⟩, q2, ey⟩ := hg
    obtain ⟨us, r1, o1, lta⟩ := sqK_inv I q1
    obtain ⟨vs, r2, o2, ltb⟩ := sqK_inv I q2
    obtain ⟨u, eu, ru⟩ := r1.get ex
    obtain ⟨v, ev, rv⟩ := r2.get ey
    obtain ⟨_, _, t⟩ := st.to
    have hd := I.ok.hd hc
    have eu2 : us.toArray[i]? = some u := by simpa using eu
    have ev2 : vs.toArray[i]? = some v := by simpa using ev
    have ltz := Heap.lt_size st.z
    have free0 : H s.heap.objs.size = none := I.hok.fresh (Nat.le_refl _)
    refine wpAny_pyNext_zipD2_item S (ik_draws (A := X.A.in1) (f := f) hd na) (ik_draws (A := X.A.in1) (f := g) hd nb) st.z st.ti t ⟨st.a, o1⟩ ⟨st.b, o2⟩ (Array.getElem?_eq_some_iff.mp eu2).1 (Array.getElem?_eq_some_iff.mp ev2).1 fun x1 x2 h1 tk p1 p2 z1 to1 a1 b1 T1 sz kp => ?_
    rw [eu2] at p1
    rw [ev2] at p2
    cases p1
    cases p2
    refine ⟨_, rfl, wpAny_letOwnedTupleGo_zip (s := { s with heap := h1, toks := tk }) z1 fun h2 z2 sb => ?_⟩
    have all : ∀ c o, c ∉ [z, ti, to, j1, j2] → s.heap.get? c = some o → h2.get? c = some o := fun c o n e => by
      obtain ⟨m1, m2, m3, m4⟩ := nin5 n
      exact (sb.2 c m1).trans (kp c o m1 m2 m3 m4 e)
    have T2 : h2.get? s.heap.objs.size = some { cls := .type "tuple", data := .seq #[u, v] } := (sb.2 _ (Nat.ne_of_gt ltz)).trans T1
    have I2 : Inv X pins σ (upd H s.heap.objs.size (.tup [x, y])) { s with heap := h2, toks := tk } := I.turnedNew all free (Nat.le_refl _) ⟨by
      show 2 ≤ sizeLine
      decide, [u, v], .cons ru (.cons rv .nil), _, T2, rfl, _, rfl⟩
    refine ⟨.ref s.heap.objs.size, _, I2, rfl, ⟨_, x, y, ⟨rfl, free0, rfl⟩, fun l hl => ?_, fun l hl => ?_⟩, ⟨z2, ?_, ⟨u, v, (sb.2 _ S.TOz).trans to1⟩, ?_, ?_⟩, fun c hc => ?_⟩
    · rw [sqK_inj I hl q1]
      exact ex
    · rw [sqK_inj I hl q2]
      exact ey
    · exact (sb.2 _ S.TIz).trans (kp _ _ S.TIz S.TITO S.TIi1 S.TIi2 st.ti)
    · exact ik_keep a1.1 fun o e => (sb.2 _ S.zi1.symm).trans e
    · exact ik_keep b1.1 fun o e => (sb.2 _ S.zi2.symm).trans e
    · have lt : c < s.heap.objs.size := by
        rcases in5 hc with e | e | e | e | e <;> rw [e]
        · exact ltz
        · exact Heap.lt_size st.ti
        · exact Heap.lt_size t
        · obtain ⟨_, e1, _⟩ := ik_get st.a
          exact Heap.lt_size e1
        · obtain ⟨_, e1, _⟩ := ik_get st.b
          exact Heap.lt_size e1
      rw [upd_ne (Nat.ne_of_lt lt)]
      exact (free c hc).1
  done := by
    intro X hP hw hK hc i pins s σ H E I free st hg
    subst hP hw hK
    obtain ⟨xs, ys, ⟨q1, q2⟩, ends⟩ := hg
    obtain ⟨us, r1, o1, lta⟩ := sqK_inv I q1
    obtain ⟨vs, r2, o2, ltb⟩ := sqK_inv I q2
    obtain ⟨_, _, t⟩ := st.to
    obtain ⟨n1, P1, S1, D1, s1, l1, e1⟩ := ik_any (P := X.prog) (w := X.w) (A := X.A.in1) (f := f) (I.ok.hd hc) na us.toArray i
    obtain ⟨n2, P2, S2, D2, s2, l2, e2⟩ := ik_any (P := X.prog) (w := X.w) (A := X.A.in1) (f := g) (I.ok.hd hc) nb vs.toArray i
    refine wpAny_pyNext_zipD2_end S D1 D2 st.z st.ti t (s1 _ st.a o1) (s2 _ st.b o2) l1 l2 (ends.imp (fun q => e1 ?_) fun q => e2 ?_) fun h1 tk kp => ⟨rfl, I.turnedL (fun c o n e => ?_) free⟩
    · have := r1.length
      simp
      omega
    · have := r2.length
      simp
      omega
    · obtain ⟨m1, m2, m3, m4⟩ := nin5 n
      exact kp c o m1 m2 m3 m4 e
  self := fun _ _ _ _ _ st q => wpAny_pyIter_zip st.z q
def iZipM (K : PySem.W.Frag) (ta : TA) : TI := fun σ H R => ta σ H fun vs H1 => ∃ f g a b xs ys, vs = [V.ref a, V.ref b] ∧ (SqK K f H1 a xs ∧ SqK K g H1 b ys) ∧ R (ItzM K f g a b) H1
theorem pi_zipM {X : Cx} {e e2 : Expr} {ta : TA} {p q tpos : Pos} {elts : List Expr} {kk : Nat} (hg : Gl X "zip") (hm : X.mg "zip" = none) (ha : PA X [e, e2] ta)
    (hs : starEach [e, e2] X.env = (false, eval e X.env) :: starEach [e2] X.env := by rfl) (pl : (backTo q (starEach [e2] X.env)).any (·.1) = false := by rfl) :
    PI X (.Tuple elts kk tpos) (.Call (.Name "zip" p) [e, e2] [] q) (iZipM X.K ta) := by
  refine ⟨fun pins s σ H R I h => ?_⟩
  refine Call_ (ld_blt I hg hm boot_zip (callWith_type1 (thn (ha.run q pins s σ H _ I h) fun us s1 ⟨vs, G, J, rel, f, g, a, b, xs, ys, ev, ⟨q1, q2⟩, want⟩ => ?_) hs pl))
  subst ev
  cases rel with
  | cons ra rel =>
    cases rel with
    | cons rb rel =>
      cases rel
      cases ra
      cases rb
      obtain ⟨l1, r1, o1, lta⟩ := sqK_inv J q1
      obtain ⟨l2, r2, o2, ltb⟩ := sqK_inv J q2
      refine zip_begins2 (ik_begins (f := f)) (ik_begins (f := g)) o1 o2 fun h1 z ti to j1 j2 sz kp => wpAny_pyIter_zip z ?_
      have J2 : Inv X pins σ G { s1 with heap := h1 } := J.kept kp
      refine ⟨_, [s1.heap.objs.size + 4, s1.heap.objs.size + 2, s1.heap.objs.size + 3, s1.heap.objs.size, s1.heap.objs.size + 1], _, _, G, rfl, J2, turn_zm (f := f) (g := g) (sep_new s1.heap.objs.size a b lta ltb) (Nat.ne_of_lt lta) (Nat.ne_of_lt (Nat.lt_succ_of_lt ltb)), ⟨z, ti, ⟨_, _, to⟩, ik_first j1, ik_first j2⟩, fun c hc => ?_, want⟩
      have le : s1.heap.objs.size ≤ c := by
        rcases in5 hc with e | e | e | e | e <;> rw [e]
        · exact Nat.le_add_right _ _
        · exact Nat.le_add_right _ _
        · exact Nat.le_add_right _ _
        · exact Nat.le_refl _
        · exact Nat.le_add_right _ _
      exact J.fpOk le (J.hok.fresh le)
def zipU (as : List AV) (ρ : SE) : R (List D) := match as with
  | [.d x, .d y] => (match unl x, unl y with
    | .lst xs, .lst ys => .ok (zipD xs ys) ρ
    | .tup xs, .tup ys => .ok (zipD xs ys) ρ
    | .tup xs, .lst ys => .ok (zipD xs ys) ρ
    | .lst xs, .tup ys => .ok (zipD xs ys) ρ
    | _, _ => .bad)
  | _ => .bad
def iZipU (ms : DM (List AV)) : DM (List D) := fun ρ => (ms ρ).bind zipU
section
variable {P : Program} {w : World} {base : Heap} {N : List Str} {sc : Scope} {j : Nat}
variable {M : Mx} {W : WX} {X : Cx} {F H F' H' F1 H1 : Hp} {σ : L2.St} {ρ ρ1 : SE}
variable {a b : Expr} {ms : DM (List AV)} {p pos : Pos}
def HeldK (M : Mx) (f : Bool) (F : Hp) (a : Addr) (vs : List V) : Prop := ∀ F2 H2, Same F F2 → SubF F2 H2 → SqK M.K f H2 a vs
theorem held_of {v : V} {d : D} {ds : List D} (r : Rep M F v d) (e : unl d = .lst ds) : ∃ a vs, v = .ref a ∧ HeldK M false F a vs ∧ Reps M F vs ds := by
  cases r with
  | lst h1 h2 =>
    cases e
    exact ⟨_, _, rfl, fun F2 H2 sa sub => .inl (.inl (sub.go _ _ (sa _ _ h1))), h2⟩
  | tl h1 h2 =>
    cases e
    exact ⟨_, _, rfl, fun F2 H2 sa sub => .inl (.inl (sub.bk _ _ _ (sa _ _ h1))), h2⟩
  | _ => cases e
theorem held_tup {v : V} {d : D} {ds : List D} (r : Rep M F v d) (e : unl d = .tup ds) : ∃ a vs, v = .ref a ∧ HeldK M true F a vs ∧ Reps M F vs ds := by
  cases r with
  | tup h1 h2 =>
    cases e
    exact ⟨_, _, rfl, fun F2 H2 sa sub => sub.sqT (same_sqT sa h1), h2⟩
  | _ => cases e
theorem it_zipH {f g : Bool} {a b : Addr} {vs ws : List V} {xs ys : List D} (h1 : HeldK M f F a vs) (h2 : HeldK M g F b ws) (r1 : Reps M F vs xs) (r2 : Reps M F ws ys) : ItOk M (ItzM M.K f g a b) F (zipD xs ys) := fun i F2 H2 sa sub => by
  have g1 := h1 F2 H2 sa sub
  have g2 := h2 F2 H2 sa sub
  refine ⟨fun d hd => ?_, fun hl => ⟨vs, ws, ⟨g1, g2⟩, ?_⟩⟩
  · obtain ⟨x, y, e1, e2, rfl⟩ := zip_get hd
    obtain ⟨v, q1, q2⟩ := r1.get e1
    obtain ⟨w, q3, q4⟩ := r2.get e2
    refine ⟨⟨vs, ws, v, w, ⟨g1, q1⟩, g2, q3⟩, fun z H' y => ?_⟩
    obtain ⟨T, x1, x2, ⟨e3, nT, e4⟩, f1, f2⟩ := y
    subst e3 e4
    have e5 := f1 _ g1
    have e6 := f2 _ g2
    rw [q1] at e5
    rw [q3] at e6
    cases e5
    cases e6
    exact ⟨_, Alc.newF' sub nT, Rep.tup (.inl (.inl upd_same)) (.cons ((q2.up sa).up (same_upd (sub.free nT))) (.cons ((q4.up sa).up (same_upd (sub.free nT))) .nil))⟩
  · unfold zipD at hl
    rw [List.length_zipWith] at hl
    rw [r1.length, r2.length]
    omega
theorem di_zipU {elts : List Expr} {kk : Nat} {tpos : Pos} (C : CxD P w base M N sc j X W) (h : GlOk sc "zip") (hm : M.mg "zip" = none) (ha : DA X M W [a, b] ms) (hs : starEach [a, b] X.env = (false, eval a X.env) :: starEach [b] X.env := by rfl) (hpl : (backTo pos (starEach [b] X.env)).any (·.1) = false := by rfl) :
    DI X M W (.Tuple elts kk tpos) (.Call (.Name "zip" p) [a, b] [] pos) (iZipU ms) := by
  obtain ⟨t, pa, qa⟩ := ha
  refine ⟨_, pi_zipM (C.glo h) (by rw [← C.hM]; exact hm) pa hs hpl, fun σ H F ρ Q sm h => ?_⟩
  refine qa σ H F ρ _ sm (PostA.goI h fun as ρ1 F1 H1 vs e0 st1 sm1 ok1 h1 => ?_)
  clear e0
  rw [← C.hK]
  unfold zipU at h1
  split at h1
  · cases ok1 with
    | cons r1 ok1 =>
      cases ok1 with
      | cons r2 ok1 =>
        cases ok1
        rename_i dx dy v w
        have r1 : Rep M F1 v dx := r1
        have r2 : Rep M F1 w dy := r2
        split at h1
        · rename_i xs ys e1 e2
          obtain ⟨a1, vs1, rfl, q1, q2⟩ := held_of r1 e1
          obtain ⟨a2, vs2, rfl, q3, q4⟩ := held_of r2 e2
          exact ⟨false, false, _, _, _, _, rfl, ⟨q1 F1 H1 (Same.refl _) sm1.sub, q3 F1 H1 (Same.refl _) sm1.sub⟩, h1 F1 H1 _ st1 sm1 (it_zipH q1 q3 q2 q4)⟩
        · rename_i xs ys e1 e2
          obtain ⟨a1, vs1, rfl, q1, q2⟩ := held_tup r1 e1
          obtain ⟨a2, vs2, rfl, q3, q4⟩ := held_tup r2 e2
          exact ⟨true, true, _, _, _, _, rfl, ⟨q1 F1 H1 (Same.refl _) sm1.sub, q3 F1 H1 (Same.refl _) sm1.sub⟩, h1 F1 H1 _ st1 sm1 (it_zipH q1 q3 q2 q4)⟩
        · rename_i xs ys e1 e2
          obtain ⟨a1, vs1, rfl, q1, q2⟩ := held_tup r1 e1
          obtain ⟨a2, vs2, rfl, q3, q4⟩ := held_of r2 e2
          exact ⟨true, false, _, _, _, _, rfl, ⟨q1 F1 H1 (Same.refl _) sm1.sub, q3 F1 H1 (Same.refl _) sm1.sub⟩, h1 F1 H1 _ st1 sm1 (it_zipH q1 q3 q2 q4)⟩
        · rename_i xs ys e1 e2
          obtain ⟨a1, vs1, rfl, q1, q2⟩ := held_of r1 e1
          obtain ⟨a2, vs2, rfl, q3, q4⟩ := held_tup r2 e2
          exact ⟨false, true, _, _, _, _, rfl, ⟨q1 F1 H1 (Same.refl _) sm1.sub, q3 F1 H1 (Same.refl _) sm1.sub⟩, h1 F1 H1 _ st1 sm1 (it_zipH q1 q3 q2 q4)⟩
        · exact h1.elim
  · exact h1.elim
end
section
variable {ρ : SE} {xs ys : List D} {x y : D}
@[simp ↓, simp] theorem u_iZipU {ms : DM (List AV)} {c : Cont (List D)} : Wp (iZipU ms ρ) = Wp ((ms ρ).bind zipU : R (List D)) := rfl
@[simp] theorem zipU_lst : zipU [.d (.lst xs), .d (.lst ys)] ρ = .ok (zipD xs ys) ρ := rfl
@[simp] theorem zipU_tup : zipU [.d (.tup xs), .d (.tup ys)] ρ = .ok (zipD xs ys) ρ := rfl
@[simp] theorem zipU_tl : zipU [.d (.tup xs), .d (.lst ys)] ρ = .ok (zipD xs ys) ρ := rfl
@[simp] theorem zipU_lt : zipU [.d (.lst xs), .d (.tup ys)] ρ = .ok (zipD xs ys) ρ := rfl
end
end DL

/- part -/
set_option Elab.async false
set_option linter.all false
set_option maxRecDepth 100000
set_option maxHeartbeats 1000000
namespace DL
open PySem PySem.Spec PyProof.Rows L2
end DL

/- part -/
set_option Elab.async false
set_option linter.all false
set_option maxRecDepth 100000
set_option maxHeartbeats 1000000
namespace DL
open PySem PySem.Spec PyProof.Rows L2
section
variable {X : Cx} {M : Mx} {W : WX}
end
section
variable {ρ : SE}
end
end DL

/- part -/
set_option Elab.async false
set_option linter.all false
set_option maxRecDepth 100000
set_option maxHeartbeats 1000000
namespace DL
open PySem PySem.Spec PyProof.Rows L2
section
variable {M : Mx} {W : WX} {X : Cx}
end
section
variable {P : Program} {w : World} {base : Heap} {N : List Str} {sc : Scope} {j : Nat} {M : Mx} {W : WX} {X : Cx} {ms : DM (List AV)} {x : Str} {a : Expr} {es : List Expr} {p p' pos : Pos}
end
end DL

/- part -/
set_option Elab.async false
set_option linter.all false
set_option maxRecDepth 100000
set_option maxHeartbeats 1000000
namespace DL
open PySem PySem.Spec PyProof.Rows L2
section
variable {x0 x1 x2 x3 x4 x5 x6 x7 x8 x9 x10 x11 x12 x13 x14 x15 x16 x17 x18 x19 x20 x21 x22 x23 x24 x25 x26 x27 x28 x29 x30 x31 x32 x33 x34 x35 x36 x37 x38 x39 x40 x41 x42 x43 x44 x45 sv : SV} {l : SE}
@[simp] theorem stow_21 (h : Nio x21) : stow (x0 :: x1 :: x2 :: x3 :: x4 :: x5 :: x6 :: x7 :: x8 :: x9 :: x10 :: x11 :: x12 :: x13 :: x14 :: x15 :: x16 :: x17 :: x18 :: x19 :: x20 :: x21 :: l) 21 sv = .ok () (x0 :: x1 :: x2 :: x3 :: x4 :: x5 :: x6 :: x7 :: x8 :: x9 :: x10 :: x11 :: x12 :: x13 :: x14 :: x15 :: x16 :: x17 :: x18 :: x19 :: x20 :: sv :: l) := stow_at rfl h
@[simp] theorem stow_22 (h : Nio x22) : stow (x0 :: x1 :: x2 :: x3 :: x4 :: x5 :: x6 :: x7 :: x8 :: x9 :: x10 :: x11 :: x12 :: x13 :: x14 :: x15 :: x16 :: x17 :: x18 :: x19 :: x20 :: x21 :: x22 :: l) 22 sv = .ok () (x0 :: x1 :: x2 :: x3 :: x4 :: x5 :: x6 :: x7 :: x8 :: x9 :: x10 :: x11 :: x12 :: x13 :: x14 :: x15 :: x16 :: x17 :: x18 :: x19 :: x20 :: x21 :: sv :: l) := stow_at rfl h
@[simp] theorem stow_23 (h : Nio x23) : stow (x0 :: x1 :: x2 :: x3 :: x4 :: x5 :: x6 :: x7 :: x8 :: x9 :: x10 :: x11 :: x12 :: x13 :: x14 :: x15 :: x16 :: x17 :: x18 :: x19 :: x20 :: x21 :: x22 :: x23 :: l) 23 sv = .ok () (x0 :: x1 :: x2 :: x3 :: x4 :: x5 :: x6 :: x7 :: x8 :: x9 :: x10 :: x11 :: x12 :: x13 :: x14 :: x15 :: x16 :: x17 :: x18 :: x19 :: x20 :: x21 :: x22 :: sv :: l) := stow_at rfl h
@[simp] theorem stow_24 (h : Nio x24) : stow (x0 :: x1 :: x2 :: x3 :: x4 :: x5 :: x6 :: x7 :: x8 :: x9 :: x10 :: x11 :: x12 :: x13 :: x14 :: x15 :: x16 :: x17 :: x18 :: x19 :: x20 :: x21 :: x22 :: x23 :: x24 :: l) 24 sv = .ok () (x0 :: x1 :: x2 :: x3 :: x4 :: x5 :: x6 :: x7 :: x8 :: x9 :: x10 :: x11 :: x12 :: x13 :: x14 :: x15 :: x16 :: x17 :: x18 :: x19 :: x20 :: x21 :: x22 :: x23 :: sv :: l) := stow_at rfl h
@[simp] theorem stow_25 (h : Nio x25) : stow (x0 :: x1 :: x2 :: x3 :: x4 :: x5 :: x6 :: x7 :: x8 :: x9 :: x10 :: x11 :: x12 :: x13 :: x14 :: x15 :: x16 :: x17 :: x18 :: x19 :: x20 :: x21 :: x22 :: x23 :: x24 :: x25 :: l) 25 sv = .ok () (x0 :: x1 :: x2 :: x3 :: x4 :: x5 :: x6 :: x7 :: x8 :: x9 :: x10 :: x11 :: x12 :: x13 :: x14 :: x15 :: x16 :: x17 :: x18 :: x19 :: x20 :: x21 :: x22 :: x23 :: x24 :: sv :: l) := stow_at rfl h
@[simp] theorem stow_26 (h : Nio x26) : stow (x0 :: x1 :: x2 :: x3 :: x4 :: x5 :: x6 :: x7 :: x8 :: x9 :: x10 :: x11 :: x12 :: x13 :: x14 :: x15 :: x16 :: x17 :: x18 :: x19 :: x20 :: x21 :: x22 :: x23 :: x24 :: x25 :: x26 :: l) 26 sv = .ok () (x0 :: x1 :: x2 :: x3 :: x4 :: x5 :: x6 :: x7 :: x8 :: x9 :: x10 :: x11 :: x12 :: x13 :: x14 :: x15 :: x16 :: x17 :: x18 :: x19 :: x20 :: x21 :: x22 :: x23 :: x24 :: x25 :: sv :: l) := stow_at rfl h
@[simp] theorem stow_27 (h : Nio x27) : stow (x0 :: x1 :: x2 :: x3 :: x4 :: x5 :: x6 :: x7 :: x8 :: x9 :: x10 :: x11 :: x12 :: x13 :: x14 :: x15 :: x16 :: x17 :: x18 :: x19 :: x20 :: x21 :: x22 :: x23 :: x24 :: x25 :: x26 :: x27 :: l) 27 sv = .ok () (x0 :: x1 :: x2 :: x3 :: x4 :: x5 :: x6 :: x7 :: x8 :: x9 :: x10 :: x11 :: x12 :: x13 :: x14 :: x15 :: x16 :: x17 :: x18 :: x19 :: x20 :: x21 :: x22 :: x23 :: x24 :: x25 :: x26 :: sv :: l) := stow_at rfl h
@[simp] theorem stow_28 (h : Nio x28) : stow (x0 :: x1 :: x2 :: x3 :: x4 :: x5 :: x6 :: x7 :: x8 :: x9 :: x10 :: x11 :: x12 :: x13 :: x14 :: x15 :: x16 :: x17 :: x18 :: x19 :: x20 :: x21 :: x22 :: x23 :: x24 :: x25 :: x26 :: x27 :: x28 :: l) 28 sv = .ok () (x0 :: x1 :: x2 :: x3 :: x4 :: x5 :: x6 :: x7 :: x8 :: x9 :: x10 :: x11 :: x12 :: x13 :: x14 :: x15 :: x16 :: x17 :: x18 :: x19 :: x20 :: x21 :: x22 :: x23 :: x24 :: x25 :: x26 :: x27 :: sv :: l) := stow_at rfl h
@[simp] theorem stow_29 (h : Nio x29) : stow (x0 :: x1 :: x2 :: x3 :: x4 :: x5 :: x6 :: x7 :: x8 :: x9 :: x10 :: x11 :: x12 :: x13 :: x14 :: x15 :: x16 :: x17 :: x18 :: x19 :: x20 :: x21 :: x22 :: x23 :: x24 :: x25 :: x26 :: x27 :: x28 :: x29 :: l) 29 sv = .ok () (x0 :: x1 :: x2 :: x3 :: x4 :: x5 :: x6 :: x7 :: x8 :: x9 :: x10 :: x11 :: x12 :: x13 :: x14 :: x15 :: x16 :: x17 :: x18 :: x19 :: x20 :: x21 :: x22 :: x23 :: x24 :: x25 :: x26 :: x27 :: x28 :: sv :: l) := stow_at rfl h
@[simp] theorem stow_30 (h : Nio x30) : stow (x0 :: x1 :: x2 :: x3 :: x4 :: x5 :: x6 :: x7 :: x8 :: x9 :: x10 :: x11 :: x12 :: x13 :: x14 :: x15 :: x16 :: x17 :: x18 :: x19 :: x20 :: x21 :: x22 :: x23 :: x24 :: x25 :: x26 :: x27 :: x28 :: x29 :: x30 :: l) 30 sv = .ok () (x0 :: x1 :: x2 :: x3 :: x4 :: x5 :: x6 :: x7 :: x8 :: x9 :: x10 :: x11 :: x12 :: x13 :: x14 :: x15 :: x16 :: x17 :: x18 :: x19 :: x20 :: x21 :: x22 :: x23 :: x24 :: x25 :: x26 :: x27 :: x28 :: x29 :: sv :: l) := stow_at rfl h
@[simp] theorem stow_31 (h : Nio x31) : stow (x0 :: x1 :: x2 :: x3 :: x4 :: x5 :: x6 :: x7 :: x8 :: x9 :: x10 :: x11 :: x12 :: x13 :: x14 :: x15 :: x16 :: x17 :: x18 :: x19 :: x20 :: x21 :: x22 :: x23 :: x24 :: x25 :: x26 :: x27 :: x28 :: x29 :: x30 :: x31 :: l) 31 sv = .ok () (x0 :: x1 :: x2 :: x3 :: x4 :: x5 :: x6 :: x7 :: x8 :: x9 :: x10 :: x11 :: x12 :: x13 :: x14 :: x15 :: x16 :: x17 :: x18 :: x19 :: x20 :: x21 :: x22 :: x23 :: x24 :: x25 :: x26 :: x27 :: x28 :: x29 :: x30 :: sv :: l) := stow_at rfl h
@[simp] theorem stow_32 (h : Nio x32) : stow (x0 :: x1 :: x2 :: x3 :: x4 :: x5 :: x6 :: x7 :: x8 :: x9 :: x10 :: x11 :: x12 :: x13 :: x14 :: x15 :: x16 :: x17 :: x18 :: x19 :: x20 :: x21 :: x22 :: x23 :: x24 :: x25 :: x26 :: x27 :: x28 :: x29 :: x30 :: x31 :: x32 :: l) 32 sv = .ok () (x0 :: x1 :: x2 :: x3 :: x4 :: x5 :: x6 :: x7 :: x8 :: x9 :: x10 :: x11 :: x12 :: x13 :: x14 :: x15 :: x16 :: x17 :: x18 :: x19 :: x20 :: x21 :: x22 :: x23 :: x24 :: x25 :: x26 :: x27 :: x28 :: x29 :: x30 :: x31 :: sv :: l) := stow_at rfl h
@[simp] theorem stow_33 (h : Nio x33) : stow (x0 :: x1 :: x2 :: x3 :: x4 :: x5 :: x6 :: x7 :: x8 :: x9 :: x10 :: x11 :: x12 :: x13 :: x14 :: x15 :: x16 :: x17 :: x18 :: x19 :: x20 :: x21 :: x22 :: x23 :: x24 :: x25 :: x26 :: x27 :: x28 :: x29 :: x30 :: x31 :: x32 :: x33 :: l) 33 sv = .ok () (x0 :: x1 :: x2 :: x3 :: x4 :: x5 :: x6 :: x7 :: x8 :: x9 :: x10 :: x11 :: x12 :: x13 :: x14 :: x15 :: x16 :: x17 :: x18 :: x19 :: x20 :: x21 :: x22 :: x23 :: x24 :: x25 :: x26 :: x27 :: x28 :: x29 :: x30 :: x31 :: x32 :: sv :: l) := stow_at rfl h
@[simp] theorem stow_34 (h : Nio x34) : stow (x0 :: x1 :: x2 :: x3 :: x4 :: x5 :: x6 :: x7 :: x8 :: x9 :: x10 :: x11 :: x12 :: x13 :: x14 :: x15 :: x16 :: x17 :: x18 :: x19 :: x20 :: x21 :: x22 :: x23 :: x24 :: x25 :: x26 :: x27 :: x28 :: x29 :: x30 :: x31 :: x32 :: x33 :: x34 :: l) 34 sv = .ok () (x0 :: x1 :: x2 :: x3 :: x4 :: x5 :: x6 :: x7 :: x8 :: x9 :: x10 :: x11 :: x12 :: x13 :: x14 :: x15 :: x16 :: x17 :: x18 :: x19 :: x20 :: x21 :: x22 :: x23 :: x24 :: x25 :: x26 :: x27 :: x28 :: x29 :: x30 :: x31 :: x32 :: x33 :: sv :: l) := stow_at rfl h
@[simp] theorem stow_35 (h : Nio x35) : stow (x0 :: x1 :: x2 :: x3 :: x4 :: x5 :: x6 :: x7 :: x8 :: x9 :: x10 :: x11 :: x12 :: x13 :: x14 :: x15 :: x16 :: x17 :: x18 :: x19 :: x20 :: x21 :: x22 :: x23 :: x24 :: x25 :: x26 :: x27 :: x28 :: x29 :: x30 :: x31 :: x32 :: x33 :: x34 :: x35 :: l) 35 sv = .ok () (x0 :: x1 :: x2 :: x3 :: x4 :: x5 :: x6 :: x7 :: x8 :: x9 :: x10 :: x11 :: x12 :: x13 :: x14 :: x15 :: x16 :: x17 :: x18 :: x19 :: x20 :: x21 :: x22 :: x23 :: x24 :: x25 :: x26 :: x27 :: x28 :: x29 :: x30 :: x31 :: x32 :: x33 :: x34 :: sv :: l) := stow_at rfl h
@[simp] theorem stow_36 (h : Nio x36) : stow (x0 :: x1 :: x2 :: x3 :: x4 :: x5 :: x6 :: x7 :: x8 :: x9 :: x10 :: x11 :: x12 :: x13 :: x14 :: x15 :: x16 :: x17 :: x18 :: x19 :: x20 :: x21 :: x22 :: x23 :: x24 :: x25 :: x26 :: x27 :: x28 :: x29 :: x30 :: x31 :: x32 :: x33 :: x34 :: x35 :: x36 :: l) 36 sv = .ok () (x0 :: x1 :: x2 :: x3 :: x4 :: x5 :: x6 :: x7 :: x8 :: x9 :: x10 :: x11 :: x12 :: x13 :: x14 :: x15 :: x16 :: x17 :: x18 :: x19 :: x20 :: x21 :: x22 :: x23 :: x24 :: x25 :: x26 :: x27 :: x28 :: x29 :: x30 :: x31 :: x32 :: x33 :: x34 :: x35 :: sv :: l) := stow_at rfl h
@[simp] theorem stow_37 (h : Nio x37) : stow (x0 :: x1 :: x2 :: x3 :: x4 :: x5 :: x6 :: x7 :: x8 :: x9 :: x10 :: x11 :: x12 :: x13 :: x14 :: x15 :: x16 :: x17 :: x18 :: x19 :: x20 :: x21 :: x22 :: x23 :: x24 :: x25 :: x26 :: x27 :: x28 :: x29 :: x30 :: x31 :: x32 :: x33 :: x34 :: x35 :: x36 :: x37 :: l) 37 sv = .ok () (x0 :: x1 :: x2 :: x3 :: x4 :: x5 :: x6 :: x7 :: x8 :: x9 :: x10 :: x11 :: x12 :: x13 :: x14 :: x15 :: x16 :: x17 :: x18 :: x19 :: x20 :: x21 :: x22 :: x23 :: x24 :: x25 :: x26 :: x27 :: x28 :: x29 :: x30 :: x31 :: x32 :: x33 :: x34 :: x35 :: x36 :: sv :: l) := stow_at rfl h
@[simp] theorem stow_38 (h : Nio x38) : stow (x0 :: x1 :: x2 :: x3 :: x4 :: x5 :: x6 :: x7 :: x8 :: x9 :: x10 :: x11 :: x12 :: x13 :: x14 :: x15 :: x16 :: x17 :: x18 :: x19 :: x20 :: x21 :: x22 :: x23 :: x24 :: x25 :: x26 :: x27 :: x28 :: x29 :: x30 :: x31 :: x32 :: x33 :: x34 :: x35 :: x36 :: x37 :: x38 :: l) 38 sv = .ok () (x0 :: x1 :: x2 :: x3 :: x4 :: x5 :: x6 :: x7 :: x8 :: x9 :: x10 :: x11 :: x12 :: x13 :: x14 :: x15 :: x16 :: x17 :: x18 :: x19 :: x20 :: x21 :: x22 :: x23 :: x24 :: x25 :: x26 :: x27 :: x28 :: x29 :: x30 :: x31 :: x32 :: x33 :: x34 :: x35 :: x36 :: x37 :: sv :: l) := stow_at rfl h
@[simp] theorem stow_39 (h : Nio x39) : stow (x0 :: x1 :: x2 :: x3 :: x4 :: x5 :: x6 :: x7 :: x8 :: x9 :: x10 :: x11 :: x12 :: x13 :: x14 :: x15 :: x16 :: x17 :: x18 :: x19 :: x20 :: x21 :: x22 :: x23 :: x24 :: x25 :: x26 :: x27 :: x28 :: x29 :: x30 :: x31 :: x32 :: x33 :: x34 :: x35 :: x36 :: x37 :: x38 :: x39 :: l) 39 sv = .ok () (x0 :: x1 :: x2 :: x3 :: x4 :: x5 :: x6 :: x7 :: x8 :: x9 :: x10 :: x11 :: x12 :: x13 :: x14 :: x15 :: x16 :: x17 :: x18 :: x19 :: x20 :: x21 :: x22 :: x23 :: x24 :: x25 :: x26 :: x27 :: x28 :: x29 :: x30 :: x31 :: x32 :: x33 :: x34 :: x35 :: x36 :: x37 :: x38 :: sv :: l) := stow_at rfl h
@[simp] theorem stow_40 (h : Nio x40) : stow (x0 :: x1 :: x2 :: x3 :: x4 :: x5 :: x6 :: x7 :: x8 :: x9 :: x10 :: x11 :: x12 :: x13 :: x14 :: x15 :: x16 :: x17 :: x18 :: x19 :: x20 :: x21 :: x22 :: x23 :: x24 :: x25 :: x26 :: x27 :: x28 :: x29 :: x30 :: x31 :: x32 :: x33 :: x34 :: x35 :: x36 :: x37 :: x38 :: x39 :: x40 :: l) 40 sv = .ok () (x0 :: x1 :: x2 :: x3 :: x4 :: x5 :: x6 :: x7 :: x8 :: x9 :: x10 :: x11 :: x12 :: x13 :: x14 :: x15 :: x16 :: x17 :: x18 :: x19 :: x20 :: x21 :: x22 :: x23 :: x24 :: x25 :: x26 :: x27 :: x28 :: x29 :: x30 :: x31 :: x32 :: x33 :: x34 :: x35 :: x36 :: x37 :: x38 :: x39 :: sv :: l) := stow_at rfl h
@[simp] theorem stow_41 (h : Nio x41) : stow (x0 :: x1 :: x2 :: x3 :: x4 :: x5 :: x6 :: x7 :: x8 :: x9 :: x10 :: x11 :: x12 :: x13 :: x14 :: x15 :: x16 :: x17 :: x18 :: x19 :: x20 :: x21 :: x22 :: x23 :: x24 :: x25 :: x26 :: x27 :: x28 :: x29 :: x30 :: x31 :: x32 :: x33 :: x34 :: x35 :: x36 :: x37 :: x38 :: x39 :: x40 :: x41 :: l) 41 sv = .ok () (x0 :: x1 :: x2 :: x3 :: x4 :: x5 :: x6 :: x7 :: x8 :: x9 :: x10 :: x11 :: x12 :: x13 :: x14 :: x15 :: x16 :: x17 :: x18 :: x19 :: x20 :: x21 :: x22 :: x23 :: x24 :: x25 :: x26 :: x27 :: x28 :: x29 :: x30 :: x31 :: x32 :: x33 :: x34 :: x35 :: x36 :: x37 :: x38 :: x39 :: x40 :: sv :: l) := stow_at rfl h
@[simp] theorem stow_42 (h : Nio x42) : stow (x0 :: x1 :: x2 :: x3 :: x4 :: x5 :: x6 :: x7 :: x8 :: x9 :: x10 :: x11 :: x12 :: x13 :: x14 :: x15 :: x16 :: x17 :: x18 :: x19 :: x20 :: x21 :: x22 :: x23 :: x24 :: x25 :: x26 :: x27 :: x28 :: x29 :: x30 :: x31 :: x32 :: x33 :: x34 :: x35 :: x36 :: x37 :: x38 :: x39 :: x40 :: x41 :: x42 :: l) 42 sv = .ok () (x0 :: x1 :: x2 :: x3 :: x4 :: x5 :: x6 :: x7 :: x8 :: x9 :: x10 :: x11 :: x12 :: x13 :: x14 :: x15 :: x16 :: x17 :: x18 :: x19 :: x20 :: x21 :: x22 :: x23 :: x24 :: x25 :: x26 :: x27 :: x28 :: x29 :: x30 :: x31 :: x32 :: x33 :: x34 :: x35 :: x36 :: x37 :: x38 :: x39 :: x40 :: x41 :: sv :: l) := stow_at rfl h
@[simp] theorem stow_43 (h : Nio x43) : stow (x0 :: x1 :: x2 :: x3 :: x4 :: x5 :: x6 :: x7 :: x8 :: x9 :: x10 :: x11 :: x12 :: x13 :: x14 :: x15 :: x16 :: x17 :: x18 :: x19 :: x20 :: x21 :: x22 :: x23 :: x24 :: x25 :: x26 :: x27 :: x28 :: x29 :: x30 :: x31 :: x32 :: x33 :: x34 :: x35 :: x36 :: x37 :: x38 :: x39 :: x40 :: x41 :: x42 :: x43 :: l) 43 sv = .ok () (x0 :: x1 :: x2 :: x3 :: x4 :: x5 :: x6 :: x7 :: x8 :: x9 :: x10 :: x11 :: x12 :: x13 :: x14 :: x15 :: x16 :: x17 :: x18 :: x19 :: x20 :: x21 :: x22 :: x23 :: x24 :: x25 :: x26 :: x27 :: x28 :: x29 :: x30 :: x31 :: x32 :: x33 :: x34 :: x35 :: x36 :: x37 :: x38 :: x39 :: x40 :: x41 :: x42 :: sv :: l) := stow_at rfl h
@[simp] theorem stow_44 (h : Nio x44) : stow (x0 :: x1 :: x2 :: x3 :: x4 :: x5 :: x6 :: x7 :: x8 :: x9 :: x10 :: x11 :: x12 :: x13 :: x14 :: x15 :: x16 :: x17 :: x18 :: x19 :: x20 :: x21 :: x22 :: x23 :: x24 :: x25 :: x26 :: x27 :: x28 :: x29 :: x30 :: x31 :: x32 :: x33 :: x34 :: x35 :: x36 :: x37 :: x38 :: x39 :: x40 :: x41 :: x42 :: x43 :: x44 :: l) 44 sv = .ok () (x0 :: x1 :: x2 :: x3 :: x4 :: x5 :: x6 :: x7 :: x8 :: x9 :: x10 :: x11 :: x12 :: x13 :: x14 :: x15 :: x16 :: x17 :: x18 :: x19 :: x20 :: x21 :: x22 :: x23 :: x24 :: x25 :: x26 :: x27 :: x28 :: x29 :: x30 :: x31 :: x32 :: x33 :: x34 :: x35 :: x36 :: x37 :: x38 :: x39 :: x40 :: x41 :: x42 :: x43 :: sv :: l) := stow_at rfl h
@[simp] theorem stow_45 (h : Nio x45) : stow (x0 :: x1 :: x2 :: x3 :: x4 :: x5 :: x6 :: x7 :: x8 :: x9 :: x10 :: x11 :: x12 :: x13 :: x14 :: x15 :: x16 :: x17 :: x18 :: x19 :: x20 :: x21 :: x22 :: x23 :: x24 :: x25 :: x26 :: x27 :: x28 :: x29 :: x30 :: x31 :: x32 :: x33 :: x34 :: x35 :: x36 :: x37 :: x38 :: x39 :: x40 :: x41 :: x42 :: x43 :: x44 :: x45 :: l) 45 sv = .ok () (x0 :: x1 :: x2 :: x3 :: x4 :: x5 :: x6 :: x7 :: x8 :: x9 :: x10 :: x11 :: x12 :: x13 :: x14 :: x15 :: x16 :: x17 :: x18 :: x19 :: x20 :: x21 :: x22 :: x23 :: x24 :: x25 :: x26 :: x27 :: x28 :: x29 :: x30 :: x31 :: x32 :: x33 :: x34 :: x35 :: x36 :: x37 :: x38 :: x39 :: x40 :: x41 :: x42 :: x43 :: x44 :: sv :: l) := stow_at rfl h
end
section
variable {ρ : SE} {s s2 t : DM Fl} {Q : Fl → SE → Prop} {E : Exc → SE → Prop}
theorem wp_seqI (I : SE → Prop) (h1 : WP (s ρ) (fun f ρ1 => f = .nx ∧ I ρ1) E) (h2 : ∀ ρ1, I ρ1 → WP (t ρ1) Q E) : WP (sSeq s t ρ) Q E := by
  rw [wp_open, u_sSeq, ← wp_open, wp_bind]
  refine h1.mono fun f ρ1 h => ?_
  obtain ⟨rfl, h⟩ := h
  exact h2 ρ1 h
end
end DL

/- part -/
set_option Elab.async false
set_option linter.all false
set_option maxRecDepth 100000
set_option maxHeartbeats 1000000
namespace DL
open PySem PySem.Spec PyProof.Rows L2
section
variable {M : Mx} {x : Str}
theorem Vals.len : ∀ {vs : List V} {us : List Value}, Vals vs us → us.length = vs.length
  | [], [], _ => rfl
  | _ :: _, _ :: _, .cons _ h => congrArg (· + 1) (Vals.len h)
theorem KCon.tup {a : Addr} {td : Option Addr} {its : Array Value} {n : Nat} {ts : Array (Option Value)} {vs : List V} {ds : List D} (h : M.mg x = some (.ref a)) (hl : M.K.lookup a = some ⟨.type "tuple", td, .seq its n, ts⟩) (hv : Vals vs its.toList) (hz : vs.length ≤ 1000) (hr : ∀ F, Reps M F vs ds) : KCon M x (.tup ds) :=
  ⟨_, .ref a, h, rfl, fun F => .tup (.inr ⟨_, its, n, hl, rfl, rfl, by
    have := Vals.len hv
    rw [Array.length_toList] at this
    rw [this]
    exact szle (by omega), hv⟩) (hr F)⟩
end
end DL

/- part -/
set_option Elab.async false
set_option linter.all false
set_option maxRecDepth 100000
set_option maxHeartbeats 1000000
namespace DL
open PySem PySem.Spec PyProof.Rows L2
mutual
def pn : Nat → D → Bool
  | 0, _ => false
  | _ + 1, .non => true
  | _ + 1, .int _ => true
  | _ + 1, .str x => x.cps.all (· < 0x110000)
  | n + 1, .tup ds => pns n ds
  | n + 1, .lst ds => pns n ds
  | _ + 1, _ => false
def pns : Nat → List D → Bool
  | _, [] => true
  | n, d :: r => pn n d && pns n r
end
mutual
theorem pn_pg : ∀ (n : Nat) (d : D), pn n d = true → pg n d = true
  | 0, d, h => by unfold pn at h; cases h
  | n + 1, d, h => by
    cases d with
    | tup ds =>
      unfold pn at h
      unfold pg
      exact pns_pg n ds h
    | lst ds =>
      unfold pn at h
      unfold pg
      exact pns_pg n ds h
    | non => rfl
    | int i => rfl
    | str x => unfold pn at h; unfold pg; exact h
    | _ => unfold pn at h; cases h
theorem pns_pg : ∀ (n : Nat) (ds : List D), pns n ds = true → pgs n ds = true
  | n, [], h => by unfold pgs; rfl
  | n, d :: r, h => by
    unfold pns at h
    obtain ⟨h1, h2⟩ := Bool.and_eq_true_iff.mp h
    unfold pgs
    rw [pn_pg n d h1, pns_pg n r h2]
    rfl
end
mutual
theorem eqv_iff : ∀ (n : Nat) (d e : D), pn n d = true → pn n e = true → PyData.eqv (toPy d) (toPy e) = true → d = e
  | 0, d, e, h, _, _ => by unfold pn at h; cases h
  | n + 1, d, e, h, h2, q => by
    cases d with
    | tup ds =>
      cases e with
      | tup es =>
        unfold pn at h h2
        unfold toPy at q
        unfold PyData.eqv at q
        rw [eqvs_iff n ds es h h2 q]
      | bl b => unfold pn at h2; cases h2
      | scr b => unfold pn at h2; cases h2
      | tl a b => unfold pn at h2; cases h2
      | obj a b => unfold pn at h2; cases h2
      | fn b => unfold pn at h2; cases h2
      | exc a b => unfold pn at h2; cases h2
      | _ => simp [toPy, PyData.eqv] at q
    | lst ds =>
      cases e with
      | lst es =>
        unfold pn at h h2
        unfold toPy at q
        unfold PyData.eqv at q
        rw [eqvs_iff n ds es h h2 q]
      | bl b => unfold pn at h2; cases h2
      | scr b => unfold pn at h2; cases h2
      | tl a b => unfold pn at h2; cases h2
      | obj a b => unfold pn at h2; cases h2
      | fn b => unfold pn at h2; cases h2
      | exc a b => unfold pn at h2; cases h2
      | _ => simp [toPy, PyData.eqv] at q
    | non =>
      cases e with
      | non => rfl
      | bl b => unfold pn at h2; cases h2
      | scr b => unfold pn at h2; cases h2
      | tl a b => unfold pn at h2; cases h2
      | obj a b => unfold pn at h2; cases h2
      | fn b => unfold pn at h2; cases h2
      | exc a b => unfold pn at h2; cases h2
      | _ => simp [toPy, PyData.eqv] at q
    | int i =>
      cases e with
      | int j => simpa [toPy, PyData.eqv] using q
      | bl b => unfold pn at h2; cases h2
      | scr b => unfold pn at h2; cases h2
      | tl a b => unfold pn at h2; cases h2
      | obj a b => unfold pn at h2; cases h2
      | fn b => unfold pn at h2; cases h2
      | exc a b => unfold pn at h2; cases h2
      | _ => simp [toPy, PyData.eqv] at q
    | str x =>
      cases e with
      | str j => simpa [toPy, PyData.eqv] using q
      | bl b => unfold pn at h2; cases h2
      | scr b => unfold pn at h2; cases h2
      | tl a b => unfold pn at h2; cases h2
      | obj a b => unfold pn at h2; cases h2
      | fn b => unfold pn at h2; cases h2
      | exc a b => unfold pn at h2; cases h2
      | _ => simp [toPy, PyData.eqv] at q
    | _ => unfold pn at h; cases h
theorem eqvs_iff : ∀ (n : Nat) (ds es : List D), pns n ds = true → pns n es = true → PyData.eqvAll (toPys ds) (toPys es) = true → ds = es
  | n, [], [], _, _, _ => rfl
  | n, [], e :: es, _, _, q => by
    unfold toPys at q
    simp [PyData.eqvAll] at q
  | n, d :: ds, [], _, _, q => by
    unfold toPys at q
    simp [PyData.eqvAll] at q
  | n, d :: ds, e :: es, h, h2, q => by
    unfold pns at h h2
    unfold toPys PyData.eqvAll at q
    obtain ⟨a1, a2⟩ := Bool.and_eq_true_iff.mp h
    obtain ⟨b1, b2⟩ := Bool.and_eq_true_iff.mp h2
    obtain ⟨c1, c2⟩ := Bool.and_eq_true_iff.mp q
    rw [eqv_iff n d e a1 b1 c1, eqvs_iff n ds es a2 b2 c2]
end
theorem eqv_ne {n : Nat} {d e : D} (h : pn n d = true) (h2 : pn n e = true) (hd : d ≠ e) : eqv d e = false := by
  cases q : eqv d e with
  | false => rfl
  | true => exact absurd (eqv_iff n d e h h2 q) hd
theorem eqD_ne {n : Nat} {d e : D} (h : pn n d = true) (h2 : pn n e = true) (hn : n ≤ 64) (hd : d ≠ e) : eqD d e = some (.im (.bl false)) := by
  rw [eq_any (pn_pg n d h) (pn_pg n e h2) hn, eqv_ne h h2 hd]
theorem neD_ne {n : Nat} {d e : D} (h : pn n d = true) (h2 : pn n e = true) (hn : n ≤ 64) (hd : d ≠ e) : neD d e = some (.im (.bl true)) := by
  rw [ne_any (pn_pg n d h) (pn_pg n e h2) hn, eqv_ne h h2 hd]
  rfl
theorem eqD_eq {n : Nat} {d e : D} (h : pn n d = true) (hn : n ≤ 64) (hd : d = e) : eqD d e = some (.im (.bl true)) := hd ▸ eq_self (pn_pg n d h) hn
@[simp] theorem pn_int {n : Nat} {i : Int} : pn (n + 1) (.int i) = true := rfl
@[simp] theorem pn_non {n : Nat} : pn (n + 1) .non = true := rfl
@[simp] theorem pn_tup {n : Nat} {ds : List D} : pn (n + 1) (.tup ds) = pns n ds := rfl
@[simp] theorem pn_lst {n : Nat} {ds : List D} : pn (n + 1) (.lst ds) = pns n ds := rfl
@[simp] theorem pns_nil {n : Nat} : pns n [] = true := by unfold pns; rfl
@[simp] theorem pns_cons {n : Nat} {d : D} {ds : List D} : pns n (d :: ds) = (pn n d && pns n ds) := by conv => lhs; unfold pns
end DL

/- part -/
set_option Elab.async false
set_option linter.all false
set_option maxRecDepth 100000
set_option maxHeartbeats 1000000
namespace DL
open PySem PySem.Spec PyProof.Rows L2
section
variable {ρ : SE} {s t u : DM Fl}
end
end DL

/- part -/
set_option Elab.async false
set_option linter.all false
set_option maxRecDepth 100000
set_option maxHeartbeats 1000000
namespace DL
open PySem PySem.Spec PyProof.Rows L2
section
variable {M : Mx} {W : WX} {X : Cx} {F H F' H' F1 H1 F2 H2 H0 Ha : Hp} {σ σ1 : L2.St} {ρ ρ1 ρ2 ρ' : SE}
variable {a b c : Expr} {ma mb mc : DM RV} {pos : Pos}
end
section
variable {P : Program} {w : World} {base : Heap} {N : List Str} {sc : Scope} {j : Nat} {M : Mx} {W : WX} {X : Cx} {a b : Expr} {mv : DM (List D)} {p pos : Pos}
end
section
variable {M : Mx} {W : WX} {X : Cx} {F H F' H' F1 H1 F2 H2 H0 Ha : Hp} {σ σ1 : L2.St} {ρ ρ1 ρ2 ρ' : SE}
variable {a b c : Expr} {ma mb mc : DM RV} {pos : Pos}
theorem svOk_dom {v : V} {sv : SV} (dom : ∀ b, Fre Ha b → Fre H0 b) (ok : SvOk M Ha F H σ ρ v sv) : SvOk M H0 F H σ ρ v sv := by
  cases sv with
  | no => exact ok
  | im d => exact ok
  | ow io oc =>
    cases io with
    | true => exact ok
    | false =>
      obtain ⟨a, o, e, h1, h2, h3, h4, h5⟩ := ok
      exact ⟨a, o, e, h1, h2, h3, h4, dom _ h5⟩
end
section
variable {P : Program} {w : World} {base : Heap} {N : List Str} {sc : Scope} {jj : Nat} {M : Mx} {W : WX} {X : Cx} {a b c : Expr} {ma mb mc : DM RV} {pos : Pos}
end
end DL

/- part -/
set_option Elab.async false
set_option linter.all false
set_option maxRecDepth 100000
set_option maxHeartbeats 1000000
namespace DL
open PySem PySem.Spec PyProof.Rows L2
section
variable {M : Mx} {W : WX} {X : Cx} {e a : Expr} {es : List Expr} {ms : DM (List AV)} {x y : Str} {p pos : Pos} {i k n : Nat}
end
section
variable {P : Program} {w : World} {base : Heap} {N : List Str} {sc : Scope} {j : Nat} {M : Mx} {W : WX} {X : Cx} {a : Expr} {es : List Expr} {ms : DM (List AV)} {x y : Str} {p pos : Pos}
end
end DL

/- part -/
set_option Elab.async false
set_option linter.all false
set_option maxRecDepth 100000
set_option maxHeartbeats 1000000
namespace DL
open PySem PySem.Spec PyProof.Rows L2
theorem KCon.fn {M : Mx} {x : Str} {f : Addr} (h : M.mg x = some (.ref f)) : KCon M x (.fn x) := ⟨_, .ref f, h, rfl, fun _ => .fn h⟩
section
variable {X : Cx} {pins : List (Addr × Obj)} {σ : L2.St} {H HZ : Hp} {s s1 : Shared}
end
section
variable {X : Cx}
end
section
variable {P : Program} {w : World} {base : Heap} {N : List Str} {sc : Scope} {j : Nat}
variable {M : Mx} {W : WX} {X : Cx} {F H F' H' F1 H1 F2 H2 H0 : Hp} {σ σ1 : L2.St} {ρ ρ1 ρ2 : SE}
end
end DL

/- part -/
set_option Elab.async false
set_option linter.all false
set_option maxRecDepth 100000
set_option maxHeartbeats 4000000
namespace DL
open PySem PySem.Spec PyProof.Rows L2
section
variable {prog : Program} {w : World} {A : Around} {R : Result → Shared → Prop} {s : Shared} {E : Value → Shared → Prop}
end
section
variable {M : Mx} {W : WX} {F H F' H' F1 H1 H0 : Hp} {σ σ1 σ' : L2.St} {ρ ρ1 ρ' : SE} {q b : Addr} {o : HO}
end
section
variable {P : Program} {w : World} {α : Type} {M : Mx} {W : WX} {Y : Cx} {F H F' H' F1 H1 H0 : Hp} {σ σ1 σ' : L2.St} {ρ ρ1 ρ' : SE} {q : Addr} {o : HO}
variable {tg iter elt e : Expr} {ifs : List Expr} {vs sl : List Nat} {gm : D → SE → R Unit} {mt : DM Bool} {me : DM RV} {mi : DM (List D)} {R : Result → Shared → Prop}
end
end DL

/- part -/
set_option Elab.async false
set_option linter.all false
set_option maxRecDepth 100000
set_option maxHeartbeats 4000000
namespace DL
open PySem PySem.Spec PyProof.Rows L2
section
variable {P : Program} {w : World} {α : Type} {M : Mx} {W : WX} {X Y : Cx} {F H F' H' F1 H1 H0 : Hp} {σ σ1 σ' : L2.St} {ρ ρ1 ρ' : SE} {q : Addr} {o : HO}
variable {tg iter elt e tg1 iter1 : Expr} {ifs ifs1 : List Expr} {vs vs1 sl sl1 : List Nat} {gm gm1 : D → SE → R Unit} {mt mt1 : DM Bool} {me : DM RV} {mi mi1 : DM (List D)}
theorem DI.can (h : DI X M W tg iter mi) : PI X tg iter (fun σ H R => ∃ F ρ, Sim M F H σ ρ ∧ PostI M W σ ρ F H (mi ρ) R) := by
  obtain ⟨t, p, q⟩ := h
  exact ⟨fun pins s σ H R I ⟨F, ρ, sm, po⟩ => p.run pins s σ H R I (q σ H F ρ R sm po)⟩
end
end DL

/- part -/
set_option Elab.async false
set_option linter.all false
set_option maxRecDepth 100000
set_option maxHeartbeats 4000000
namespace DL
open PySem PySem.Spec PyProof.Rows L2
section
variable {P : Program} {w : World} {A : Around} {E : Value → Shared → Prop} {s : Shared} {a : Addr}
end
section
variable {X : Cx}
end
end DL

/- part -/
set_option Elab.async false
set_option linter.all false
set_option maxRecDepth 100000
set_option maxHeartbeats 4000000
namespace DL
open PySem PySem.Spec PyProof.Rows L2
section
variable {P : Program} {w : World} {base : Heap} {N : List Str} {sc csc : Scope} {j : Nat}
variable {M : Mx} {W : WX} {X Y : Cx} {F H F' H' F1 H1 H0 : Hp} {σ σ1 σ' : L2.St} {ρ ρ1 ρ' : SE} {q : Addr} {o : HO}
variable {tg iter elt e tg1 iter1 : Expr} {ifs ifs1 : List Expr} {own : List (Str × Nat)} {vs1 sl sl1 : List Nat} {gm gm1 : D → SE → R Unit} {mt mt1 : DM Bool} {me : DM RV} {mi mi1 : DM (List D)} {pos p : Pos}
variable {mk : DM (List Int)}
end
end DL

/- part -/
set_option Elab.async false
set_option linter.all false
set_option maxRecDepth 100000
set_option maxHeartbeats 4000000
namespace DL
open PySem PySem.Spec PyProof.Rows L2
section
variable {P : Program} {w : World} {base : Heap} {N : List Str} {sc : Scope} {j : Nat}
variable {M : Mx} {W : WX} {X : Cx} {F H F' H' F1 H1 F2 H2 H0 : Hp} {σ σ1 : L2.St} {ρ ρ1 ρ2 : SE}
variable {a b c e tg : Expr} {mv : DM (List D)} {pos p : Pos}
end
end DL

/- part -/
set_option Elab.async false
set_option linter.all false
set_option maxRecDepth 100000
set_option maxHeartbeats 1000000
namespace DL
open PySem PySem.Spec PyProof.Rows L2
section
variable {α : Type} {ρ : SE} {vs : List Nat} {gm : D → SE → R Unit} {mt : DM Bool} {body : α → DM α} {ds : List D} {mi : DM (List D)} {a0 : α}
end
end DL
namespace DL
open PySem PySem.Spec PyProof.Rows L2
end DL

/- part -/
set_option Elab.async false
set_option linter.all false
set_option maxRecDepth 100000
set_option maxHeartbeats 1000000
namespace DL
open PySem PySem.Spec PyProof.Rows L2
section
variable {P : Program} {w : World} {base : Heap} {N : List Str} {sc : Scope} {j : Nat}
variable {M : Mx} {W : WX} {X : Cx} {F H F' H' F1 H1 F2 H2 H0 : Hp} {σ σ1 : L2.St} {ρ ρ1 ρ2 : SE}
variable {a b c e o : Expr} {ma mb m mo : DM RV} {es : List Expr} {ms : DM (List AV)} {mv : DM (List D)} {pos p p' q1 q2 apos cpos bpos : Pos} {x f : Str}
theorem NdF.set {c f : Str} {p : Addr} {od : Obj} {us : List V} {vs : List (Str × V)} (h : NdF F c vs) (hp : F p = some (.frz od (.tup us))) (hd : od.dict = none) : NdF F c (putF f (.ref p) vs) := fun z v q => by
  by_cases e : f = "digits"
  · subst e
    have : v = .ref p := by
      have gen : ∀ vs : List (Str × V), (putF "digits" (.ref p) vs).lookup ("digits" : Str) = some (.ref p) := by
        intro vs
        induction vs with
        | nil =>
          show List.lookup ("digits" : Str) [(("digits" : Str), V.ref p)] = _
          rw [List.lookup_cons, beq_self_eq_true]
        | cons y r ih =>
          obtain ⟨g, x⟩ := y
          unfold putF
          by_cases e : g = "digits"
          · rw [if_pos e, List.lookup_cons, e, beq_self_eq_true]
          · rw [if_neg e, List.lookup_cons, show (("digits" : Str) == g) = false from beq_eq_false_iff_ne.mpr (Ne.symm e)]
            exact ih
      rw [gen vs] at q
      exact (Option.some.inj q).symm
    exact ⟨p, od, us, this, hp, hd⟩
  · rw [lookup_putF e] at q
    exact h z v q
end
end DL

/- part -/
set_option Elab.async false
set_option linter.all false
set_option maxRecDepth 100000
set_option maxHeartbeats 1000000
namespace DL
open PySem PySem.Spec PyProof.Rows L2
section
variable {X : Cx}
end
section
variable {P : Program} {w : World} {base : Heap} {N : List Str} {sc : Scope} {j : Nat}
variable {M : Mx} {W : WX} {X : Cx} {F H F' H' F1 H1 F2 H2 H0 : Hp} {σ σ1 : L2.St} {ρ ρ1 ρ2 : SE}
variable {a b c e o : Expr} {ma mb m mo : DM RV} {pos p p' q1 q2 apos cpos bpos : Pos} {x f : Str}
def isL : Option D → Bool
  | some (.lst _) => true
  | _ => false
end
end DL

/- part -/
set_option Elab.async false
set_option linter.all false
set_option maxRecDepth 100000
set_option maxHeartbeats 1000000
namespace DL
open PySem PySem.Spec PyProof.Rows L2
section
variable {P : Program} {w : World} {base : Heap} {N : List Str} {sc : Scope} {j : Nat}
variable {M : Mx} {W : WX} {X : Cx} {F H F' H' F1 H1 F2 H2 H0 : Hp} {σ σ1 : L2.St} {ρ ρ1 ρ2 : SE}
variable {a b c e o : Expr} {ma mb m mo : DM RV} {pos p p' q1 q2 px py pt : Pos} {x y : Str}
end
end DL
namespace DL
open PySem PySem.Spec PyProof.Rows L2
section
variable {ρ ρ1 : SE} {i j : Nat} {m mo ma : DM RV} {ds : List D} {d : D} {svs : SE} {ns : List Int} {k : Int} {r : RV} {c : Str} {fs : List (Str × D)}
def btK (svs : SE) (d : D) (o : Option SV) (ρ : SE) : R RV := match o with
  | some (.ow false (.ls ds)) => .ok (.ot ds d) (outs svs ρ)
  | _ => .bad
@[simp] theorem mRet_bt : mRet svs (.rt (.bt i d)) ρ = btK svs d ρ[i]? ρ := rfl
@[simp] theorem btK_ow : btK svs d (some (.ow false (.ls ds))) ρ = .ok (.ot ds d) (outs svs ρ) := rfl
@[simp] theorem mRet_ot : mRet svs (.rt (.ot ds d)) ρ = .ok (.ot ds d) (outs svs ρ) := rfl
@[simp] theorem notBo_ot : notBo (.ot ds d) = true := rfl
@[simp] theorem callR_5 {mf : SE → R RV} {d1 d2 d3 d4 d5 : D} : callR mf [.d d1, .d d2, .d d3, .d d4, .d d5] ρ = retR (mf [.im d1, .im d2, .im d3, .im d4, .im d5]) ρ := callR_no rfl
@[simp] theorem callR_io4' {mf : SE → R RV} {d1 d2 d3 : D} : callR mf [.io i, .d d1, .d d2, .d d3] ρ = retIo (mf [ioSV ρ[i]?, .im d1, .im d2, .im d3]) 0 i ρ := by
  rw [← argSV_eq]
  exact callR_io rfl
@[simp] theorem callR_io5 {mf : SE → R RV} {d1 d2 d3 d4 : D} : callR mf [.io i, .d d1, .d d2, .d d3, .d d4] ρ = retIo (mf [ioSV ρ[i]?, .im d1, .im d2, .im d3, .im d4]) 0 i ρ := by
  rw [← argSV_eq]
  exact callR_io rfl
end
end DL

/- part -/
set_option Elab.async false
set_option linter.all false
set_option maxRecDepth 100000
set_option maxHeartbeats 1000000
namespace DL
open PySem PySem.Spec PyProof.Rows L2
section
variable {P : Program} {w : World} {base : Heap} {N : List Str} {sc : Scope} {j : Nat}
variable {M : Mx} {W : WX} {X : Cx} {F H F' H' F1 H1 F2 H2 H0 : Hp} {σ σ1 : L2.St} {ρ ρ1 ρ2 : SE}
variable {a b : Expr} {ma mb m : DM RV} {pos px py pt pt2 : Pos} {x y : Str}
end
section
variable {ρ ρ2 : SE} {i j : Nat} {ma mb : DM RV} {ds : List D} {d : D}
end
end DL

/- part -/
set_option Elab.async false
set_option linter.all false
set_option maxRecDepth 100000
set_option maxHeartbeats 4000000
namespace DL
open PySem PySem.Spec PyProof.Rows L2
section
variable {P : Program} {w : World} {A : Around} {E : Value → Shared → Prop} {s : Shared}
end
section
variable {M : Mx} {W : WX} {X : Cx} {F H F' H' F1 H1 H0 : Hp} {σ : L2.St} {ρ ρ1 : SE}
variable {P : Program} {w : World} {base : Heap} {N : List Str} {sc : Scope} {j : Nat}
variable {a e : Expr} {ma m : DM RV} {es : List Expr} {pos p p2 q : Pos}
end
section
variable {ns : List Int}
end
end DL

/- part -/
set_option Elab.async false
set_option linter.all false
set_option maxRecDepth 100000
set_option maxHeartbeats 4000000
namespace DL
open PySem PySem.Spec PyProof.Rows L2
section
variable {P : Program} {w : World} {A : Around} {R : Result → Shared → Prop}
open AutoSeq1 (wpAny_loadPart')
open SeqAt MeetsSeq MeetsSeq2 MeetsSeq3 SeqRoads2
end
section
variable {X : Cx} {k : Nat} {C f : Addr} {fd : FuncData} {ps : List Str} {sp : Sp}
end
section
variable {P : Program} {w : World} {base : Heap} {N : List Str} {sc : Scope} {j : Nat}
variable {M : Mx} {W : WX} {X : Cx} {F H F' H' F1 H1 F2 H2 : Hp} {σ : L2.St} {ρ ρ1 ρ2 : SE}
variable {a b : Expr} {ma mb : DM RV} {pos : Pos} {cl : Str} {mm : SE → R RV} {k : Nat}
end
end DL

/- part -/
set_option Elab.async false
set_option linter.all false
set_option maxRecDepth 100000
set_option maxHeartbeats 4000000
namespace DL
open PySem PySem.Spec PyProof.Rows L2 PySem.Froz
def TxR (P : Program) (w : World) (h : Heap) (a : Addr) (l : List Str) : Prop := ∃ D : SD, h.get? a = some (sObj "set" D) ∧ TxOk P w D l ∧ l.Nodup ∧ Ris D.2.2.place.toList ∧ (w.params.followText "set-order" = true ∨ D.2.2.led = true)
section
variable {P : Program} {w : World} {A : Around} {E : Value → Shared → Prop} {s : Shared} {a : Addr} {l : List Str}
theorem TxR.at {h h' : Heap} (R : TxR P w h a l) (k : ∀ o, h.get? a = some o → h'.get? a = some o) : TxR P w h' a l := by
  obtain ⟨D, e, r⟩ := R
  exact ⟨D, k _ e, r⟩
end
section
variable {P : Program} {w : World} {A : Around} {E : Value → Shared → Prop} {s : Shared} {a : Addr} {l : List Str}
end
end DL

/- part -/
set_option Elab.async false
set_option linter.all false
set_option maxRecDepth 100000
set_option maxHeartbeats 4000000
namespace DL
open PySem PySem.Spec PyProof.Rows L2
def LeT (a b : Str) : Prop := a.cps.toList ≤ b.cps.toList
theorem LeT.trans {a b c : Str} (h1 : LeT a b) (h2 : LeT b c) : LeT a c := List.le_trans h1 h2
end DL

/- part -/
set_option Elab.async false
set_option linter.all false
set_option maxRecDepth 100000
set_option maxHeartbeats 4000000
namespace DL
open PySem PySem.Spec PyProof.Rows L2
section
variable {M : Mx} {W : WX} {X : Cx} {F H F' H' F1 H1 H0 : Hp} {σ : L2.St} {ρ ρ1 : SE}
variable {P : Program} {w : World} {base : Heap} {N : List Str} {sc : Scope} {j : Nat}
variable {a e : Expr} {ma m : DM RV} {es : List Expr} {pos p p2 q : Pos}
end
section
variable {ns : List Int} {xs : List Str}
end
end DL

/- part -/
set_option Elab.async false
set_option linter.all false
set_option maxRecDepth 100000
set_option maxHeartbeats 4000000
namespace DL
open PySem PySem.Spec PyProof.Rows L2
def lacks (h : Heap) (a : Addr) : Heap := ⟨h.objs.setIfInBounds a { cls := .none, data := .freed }, h.life⟩
theorem lacks_at {h : Heap} {a : Addr} : (lacks h a).get? a = none := by
  unfold lacks Heap.get?
  by_cases lt : a < h.objs.size
  · simp [Array.getElem?_setIfInBounds, lt]
  · simp [Array.getElem?_setIfInBounds, lt]
theorem lacks_ne {h : Heap} {a b : Addr} (ne : b ≠ a) : (lacks h a).get? b = h.get? b := by
  unfold lacks Heap.get?
  simp only [Array.getElem?_setIfInBounds_ne (Ne.symm ne)]
section
variable {M : Mx} {P : Program} {w : World} {H : Hp} {h : Heap} {a : Addr} {a' : Addr × Obj} {us ws : List V} {ks vs : List D}
theorem dct_at (ok : ObjOk P w H h a (XtO M .dct a' us ws ks vs)) : a'.1 = a := by
  obtain ⟨p, _, st⟩ := ok
  by_cases e : a'.1 = a
  · exact e
  · exfalso
    have q := st h (lacks h a'.1) p fun o ho => by
      rw [lacks_ne (fun z => e z.symm)]
      exact ho
    obtain ⟨ho, _⟩ := (show DctP M.w a' us ws ks vs (lacks h a'.1) from q)
    rw [lacks_at] at ho
    cases ho
theorem dct_ok (ok : ObjOk P w H h a (XtO M .dct a' us ws ks vs)) : h.get? a = some a'.2 ∧ DctF M.w a a'.2 us ws ks := by
  have e := dct_at ok
  obtain ⟨p1, p2⟩ := (show DctP M.w a' us ws ks vs h from ok.1)
  rw [e] at p1 p2
  exact ⟨p1, p2⟩
theorem dct_new {o : Obj} (e : h.get? a = some o) (p : DctF M.w a o us ws ks) : ObjOk P w H h a (XtO M .dct (a, o) us ws ks vs) :=
  ⟨⟨e, p⟩, ⟨o, e⟩, fun h1 h2 ⟨q1, q2⟩ k => ⟨k _ q1, q2⟩⟩
end
mutual
inductive NkV (K : PySem.W.Frag) (H : Hp) : V → NestedKey → Prop
  | non : NkV K H .non .none
  | int (i : Int) : NkV K H (.int i) (.num i)
  | str (x : Str) : NkV K H (.str x) (.text x)
  | tup {a : Addr} {vs : List V} {ks : List NestedKey} : SqT K H a vs → NkVs K H vs ks → NkV K H (.ref a) (.tup ks)
inductive NkVs (K : PySem.W.Frag) (H : Hp) : List V → List NestedKey → Prop
  | nil : NkVs K H [] []
  | cons {v : V} {vs : List V} {k : NestedKey} {ks : List NestedKey} : NkV K H v k → NkVs K H vs ks → NkVs K H (v :: vs) (k :: ks)
end
section
variable {M : Mx} {F H : Hp}
mutual
theorem Rep.nkV (sub : SubF F H) : ∀ (n : Nat) (d : D) (v : V), kOk n d = true → Rep M F v d → NkV M.K H v (nk d) ∧ (nk d).depth ≤ n
  | n, .int i, _, _, r => by
    cases r
    unfold nk
    exact ⟨.int i, by unfold NestedKey.depth; omega⟩
  | n, .str i, _, _, r => by
    cases r
    unfold nk
    exact ⟨.str i, by unfold NestedKey.depth; omega⟩
  | n, .non, _, _, r => by
    cases r
    unfold nk
    exact ⟨.non, by unfold NestedKey.depth; omega⟩
  | 0, .tup ds, _, h, _ => by
    unfold kOk at h
    cases h
  | n + 1, .tup ds, _, h, r => by
    cases r with
    | tup h1 h2 =>
      unfold kOk at h
      obtain ⟨p1, p2⟩ := Reps.nkV sub n ds _ h h2
      unfold nk
      exact ⟨.tup (sub.sqT h1) p1, by unfold NestedKey.depth; omega⟩
  | 0, .bl _, _, h, _ => by
    unfold kOk at h
    cases h
  | n + 1, .bl _, _, h, _ => by
    unfold kOk at h
    cases h
  | 0, .lst _, _, h, _ => by
    unfold kOk at h
    cases h
  | n + 1, .lst _, _, h, _ => by
    unfold kOk at h
    cases h
  | 0, .scr _, _, h, _ => by
    unfold kOk at h
    cases h
  | n + 1, .scr _, _, h, _ => by
    unfold kOk at h
    cases h
  | 0, .tl _ _, _, h, _ => by
    unfold kOk at h
    cases h
  | n + 1, .tl _ _, _, h, _ => by
    unfold kOk at h
    cases h
  | 0, .obj _ _, _, h, _ => by
    unfold kOk at h
    cases h
  | n + 1, .obj _ _, _, h, _ => by
    unfold kOk at h
    cases h
  | 0, .fn _, _, h, _ => by
    unfold kOk at h
    cases h
  | n + 1, .fn _, _, h, _ => by
    unfold kOk at h
    cases h
  | 0, .exc _ _, _, h, _ => by
    unfold kOk at h
    cases h
  | n + 1, .exc _ _, _, h, _ => by
    unfold kOk at h
    cases h
  | 0, .xt _ _ _, _, h, _ => by
    unfold kOk at h
    cases h
  | n + 1, .xt _ _ _, _, h, _ => by
    unfold kOk at h
    cases h
theorem Reps.nkV (sub : SubF F H) : ∀ (n : Nat) (ds : List D) (vs : List V), kOks n ds = true → Reps M F vs ds → NkVs M.K H vs (nks ds) ∧ NestedKey.depthAll (nks ds) ≤ n
  | n, [], _, _, r => by
    cases r
    unfold nks
    exact ⟨.nil, by unfold NestedKey.depthAll; omega⟩
  | n, d :: ds, _, h, r => by
    unfold kOks at h
    obtain ⟨h1, h2⟩ := Bool.and_eq_true_iff.mp h
    cases r with
    | cons r1 r2 =>
      obtain ⟨p1, p2⟩ := Rep.nkV sub n d _ h1 r1
      obtain ⟨q1, q2⟩ := Reps.nkV sub n ds _ h2 r2
      unfold nks
      exact ⟨.cons p1 q1, by unfold NestedKey.depthAll; omega⟩
end
end
section
variable {X : Cx} {pins : List (Addr × Obj)} {σ : L2.St} {H : Hp} {s : Shared}
theorem relV_int {i : Int} {u : Value} (r : RelV (.int i) u) : ∃ t, u = .int i t := r
theorem relV_str {i : Str} {u : Value} (r : RelV (.str i) u) : ∃ t, u = .str i t := r
mutual
theorem NkV.is (I : Inv X pins σ H s) : ∀ (k : NestedKey) (v : V) (u : Value), NkV X.K H v k → RelV v u → NestedIs s.heap k u
  | .none, _, u, h, r => by
    cases h
    cases (show u = Value.none from r)
    exact .none
  | .num i, _, u, h, r => by
    cases h
    obtain ⟨t, rfl⟩ := relV_int r
    exact .int _ _
  | .text x, _, u, h, r => by
    cases h
    obtain ⟨t, rfl⟩ := relV_str r
    exact .text _ _
  | .tup ks, _, u, h, r => by
    cases h with
    | @tup a vs _ h1 h2 =>
      cases (show u = Value.ref a from r)
      obtain ⟨its, rv, ⟨o, ho, hc, n, hd⟩, _⟩ := I.tuple h1
      exact .tup ho hc hd (by simpa using NkVs.are I ks vs its h2 rv)
theorem NkVs.are (I : Inv X pins σ H s) : ∀ (ks : List NestedKey) (vs : List V) (us : List Value), NkVs X.K H vs ks → Vals vs us → NestedAll s.heap ks us
  | [], _, us, h, r => by
    cases h
    cases r
    exact .nil
  | k :: ks, _, us, h, r => by
    cases h with
    | cons h1 h2 =>
      cases r with
      | cons r1 r2 => exact .cons (NkV.is I k _ _ h1 r1) (NkVs.are I ks _ _ h2 r2)
end
end
def fIx (q : NestedKey) : List D → Option Nat
  | [] => none
  | k :: ks => if nk k = q then some 0 else (fIx q ks).map (· + 1)
theorem fIx_none {q : NestedKey} : ∀ {ks : List D}, fIx q ks = none → ∀ k ∈ ks, nk k ≠ q
  | k :: ks, h, x, hx => by
    unfold fIx at h
    split at h
    · cases h
    · rename_i ne
      rcases List.mem_cons.mp hx with rfl | hx
      · exact ne
      · exact fIx_none (Option.map_eq_none_iff.mp h) x hx
def putKs (k : D) (ks : List D) : List D := match fIx (nk k) ks with
  | some _ => ks
  | none => ks ++ [k]
theorem KsOk.put {ks : List D} {k : D} (h : KsOk ks) (hk : kOk 8 k = true) (so : (leafD k = true ∧ ∀ z ∈ ks, leafD z = true) ∨ (isTupD k = true ∧ ∀ z ∈ ks, isTupD z = true)) : KsOk (putKs k ks) := by
  unfold putKs
  split
  · exact h
  · rename_i e
    obtain ⟨h1, h2, h3⟩ := h
    refine ⟨?_, fun z hz => ?_, ?_⟩
    · rw [List.map_append, List.nodup_append]
      refine ⟨h1, List.pairwise_singleton _ _, fun x hx y hy ee => ?_⟩
      obtain ⟨z, hz, rfl⟩ := List.mem_map.mp hx
      rw [List.map_singleton, List.mem_singleton] at hy
      subst hy
      exact fIx_none e z hz ee
    · rcases List.mem_append.mp hz with hz | hz
      · exact h2 z hz
      · rw [List.mem_singleton.mp hz]
        exact hk
    · rcases so with ⟨a, b⟩ | ⟨a, b⟩
      · refine .inl fun z hz => ?_
        rcases List.mem_append.mp hz with hz | hz
        · exact b z hz
        · rw [List.mem_singleton.mp hz]
          exact a
      · refine .inr fun z hz => ?_
        rcases List.mem_append.mp hz with hz | hz
        · exact b z hz
        · rw [List.mem_singleton.mp hz]
          exact a
end DL

/- part -/
set_option Elab.async false
set_option linter.all false
set_option maxRecDepth 100000
set_option maxHeartbeats 4000000
namespace DL
open PySem PySem.Spec PyProof.Rows L2
def tri : List D → List Value → List Value → List (NestedKey × Addr × Value)
  | k :: ks, .ref b :: xs, y :: ys => (nk k, b, y) :: tri ks xs ys
  | _, _, _ => []
inductive Refs : List Value → Prop
  | nil : Refs []
  | cons {b : Addr} {xs : List Value} : Refs xs → Refs (.ref b :: xs)
theorem Refs.set {b : Addr} : ∀ {xs : List Value} (h : Refs xs), Refs (xs ++ [.ref b])
  | _, .nil => .cons .nil
  | _, .cons h => .cons (Refs.set h)
section
variable {P : Program} {w : World}
theorem tri_ent : ∀ {ks : List D} {xs ys : List Value}, Refs xs → entL w ks xs ys = (tri ks xs ys).map (entryOfKey (nestedKind P w))
  | [], _, _, _ => rfl
  | _ :: _, _, _, .nil => rfl
  | _ :: _, _, [], .cons _ => rfl
  | k :: ks, _, y :: ys, .cons h => by
    show _ :: entL w ks _ ys = _ :: (tri ks _ ys).map _
    rw [tri_ent h]
    rfl
theorem tri_keys : ∀ {ks : List D} {xs ys : List Value}, Refs xs → xs.length = ks.length → ys.length = ks.length → (tri ks xs ys).map (·.1) = ks.map nk
  | [], _, _, _, _, _ => rfl
  | _ :: _, _, _, .nil, h, _ => by simp at h
  | _ :: _, _, [], .cons _, _, h => by simp at h
  | k :: ks, _, y :: ys, .cons h, h1, h2 => by
    show nk k :: (tri ks _ ys).map _ = nk k :: ks.map nk
    rw [tri_keys h (by simpa using h1) (by simpa using h2)]
theorem tri_at {q : NestedKey} : ∀ {ks : List D} {xs ys : List Value}, Refs xs → xs.length = ks.length → ys.length = ks.length → (atKey (tri ks xs ys) q).map (·.2) = (fIx q ks).bind fun i => ys[i]?
  | [], _, _, _, _, _ => rfl
  | _ :: _, _, _, .nil, h, _ => by simp at h
  | _ :: _, _, [], .cons _, _, h => by simp at h
  | k :: ks, _, y :: ys, @Refs.cons b xs h, h1, h2 => by
    have ih := tri_at (q := q) h (by simpa using h1) (by simpa using h2) (ks := ks) (ys := ys)
    unfold fIx
    show (atKey ((nk k, b, y) :: tri ks xs ys) q).map (·.2) = _
    unfold atKey at ih ⊢
    rw [List.find?_cons]
    by_cases e : nk k = q
    · simp [e]
    · simp only [decide_eq_false e, if_neg e]
      rw [ih]
      cases fIx q ks with
      | none => rfl
      | some i => simp
end
def lk : D → Key
  | .int i => .inl i
  | .str x => .inr x
  | _ => .inl 0
def lvV : D → V
  | .int i => .int i
  | .str x => .str x
  | _ => .non
def duo : List D → List Value → List (Key × Value)
  | k :: ks, y :: ys => (lk k, y) :: duo ks ys
  | _, _ => []
theorem leaf_nk {d e : D} (h1 : leafD d = true) (h2 : leafD e = true) : nk d = nk e ↔ lk d = lk e := by
  cases d <;> first
    | (unfold leafD at h1; cases h1; done)
    | skip
  all_goals cases e <;> first
    | (unfold leafD at h2; cases h2; done)
    | skip
  all_goals simp [nk, lk]
theorem leaf_kV {d : D} (h : leafD d = true) : kV (lk d) = lvV d := by
  cases d <;> first
    | (unfold leafD at h; cases h; done)
    | rfl
theorem leaf_hash {w : World} {d : D} (h : leafD d = true) : (nk d).hash w = keyH w (lk d) := by
  cases d <;> first
    | (unfold leafD at h; cases h; done)
    | skip
  all_goals simp [nk, lk, NestedKey.hash, keyH]
theorem leaf_rep {M : Mx} {F : Hp} {d : D} {v : V} (h : leafD d = true) (r : Rep M F v d) : v = lvV d := by
  cases r <;> first
    | rfl
    | (unfold leafD at h; cases h)
theorem leaf_reps {M : Mx} {F : Hp} : ∀ {ks : List D} {us : List V}, (∀ k ∈ ks, leafD k = true) → Reps M F us ks → us = ks.map lvV
  | _, _, _, .nil => rfl
  | _, _, h, .cons r t => by
    rw [leaf_rep (h _ List.mem_cons_self) r, leaf_reps (fun k hk => h k (List.mem_cons_of_mem _ hk)) t]
    rfl
section
variable {P : Program} {w : World}
theorem duo_keys : ∀ {ks : List D} {ys : List Value}, ys.length = ks.length → (duo ks ys).map (·.1) = ks.map lk
  | [], _, _ => rfl
  | _ :: _, [], h => by simp at h
  | k :: ks, y :: ys, h => by
    show lk k :: (duo ks ys).map _ = _
    rw [duo_keys (by simpa using h)]
    rfl
theorem duo_pairs : ∀ {ks : List D} {xs ys : List Value}, (∀ k ∈ ks, leafD k = true) → Vals (ks.map lvV) xs → ys.length = ks.length → Pairs (mixKind P w) (entL w ks xs ys) (duo ks ys)
  | [], _, _, _, _, _ => .nil
  | _ :: _, _, [], _, _, h => by simp at h
  | k :: ks, _, y :: ys, h, .cons r t, h2 => by
    refine .cons ?_ rfl (duo_pairs (fun k hk => h k (List.mem_cons_of_mem _ hk)) t (by simpa using h2))
    have := h k List.mem_cons_self
    exact kV_is (by rw [leaf_kV this]; exact r)
theorem duo_keysOf {ks : List D} {xs ys : List Value} (h : ∀ k ∈ ks, leafD k = true) (r : Vals (ks.map lvV) xs) (h2 : ys.length = ks.length) : KeysOf (mixKind P w) (entL w ks xs ys).toArray := by
  have main : ∀ {ks : List D} {xs ys : List Value}, (∀ k ∈ ks, leafD k = true) → Vals (ks.map lvV) xs → ∀ e ∈ entL w ks xs ys, ∃ k, (mixKind P w).is k e.key = true ∧ e.hash = (mixKind P w).hash k := by
    intro ks
    induction ks with
    | nil =>
      intro xs ys h r e he
      cases he
    | cons k ks ih =>
      intro xs ys h r e he
      cases r with
      | cons r t =>
        cases ys with
        | nil => cases he
        | cons y ys =>
          rcases List.mem_cons.mp he with rfl | he
          · have := h k List.mem_cons_self
            exact ⟨lk k, kV_is (by rw [leaf_kV this]; exact r), leaf_hash this⟩
          · exact ih (fun k hk => h k (List.mem_cons_of_mem _ hk)) t e he
  intro e he
  exact main h r e (by simpa using he)
theorem leaf_nodup : ∀ {ks : List D}, (∀ k ∈ ks, leafD k = true) → ((ks.map nk).Nodup ↔ (ks.map lk).Nodup)
  | [], _ => by simp
  | k :: ks, h => by
    have hk := h k List.mem_cons_self
    have ht : ∀ z ∈ ks, leafD z = true := fun z hz => h z (List.mem_cons_of_mem _ hz)
    rw [List.map_cons, List.map_cons, List.nodup_cons, List.nodup_cons, leaf_nodup ht]
    refine and_congr_left fun _ => not_congr ?_
    simp only [List.mem_map]
    exact ⟨fun ⟨z, hz, e⟩ => ⟨z, hz, (leaf_nk (ht z hz) hk).mp e⟩, fun ⟨z, hz, e⟩ => ⟨z, hz, (leaf_nk (ht z hz) hk).mpr e⟩⟩
theorem duo_at {k : D} (hk : leafD k = true) : ∀ {ks : List D} {ys : List Value}, (∀ k ∈ ks, leafD k = true) → ys.length = ks.length → valueAt (duo ks ys) (lk k) = (fIx (nk k) ks).bind fun i => ys[i]?
  | [], _, _, _ => rfl
  | _ :: _, [], _, h => by simp at h
  | z :: ks, y :: ys, h, h2 => by
    have ih := duo_at hk (ks := ks) (ys := ys) (fun k hk => h k (List.mem_cons_of_mem _ hk)) (by simpa using h2)
    unfold valueAt at ih ⊢
    show ((List.find? _ ((lk z, y) :: duo ks ys)).map _) = _
    unfold fIx
    rw [List.find?_cons]
    by_cases e : nk z = nk k
    · simp [e, (leaf_nk (h z List.mem_cons_self) hk).mp e]
    · have e2 : ¬ lk z = lk k := fun q => e ((leaf_nk (h z List.mem_cons_self) hk).mpr q)
      simp only [decide_eq_false e2, if_neg e]
      rw [ih]
      cases fIx (nk k) ks with
      | none => rfl
      | some i => simp
theorem duo_back : ∀ {ks : List D} {ys : List Value} {es : List DictEntry}, (∀ k ∈ ks, leafD k = true) → ys.length = ks.length → Pairs (mixKind P w) es (duo ks ys) → (∀ e ∈ es, ∃ k, (mixKind P w).is k e.key = true ∧ e.hash = (mixKind P w).hash k) → ∃ xs, Vals (ks.map lvV) xs ∧ es = entL w ks xs ys
  | [], [], _, _, _, .nil, _ => ⟨[], .nil, rfl⟩
  | [], _ :: _, _, _, h, _, _ => by simp at h
  | _ :: _, [], _, _, h, _, _ => by simp at h
  | k :: ks, y :: ys, _, h, h2, .cons (e := e) (es := es) p1 p2 p3, ko => by
    obtain ⟨xs, g1, g2⟩ := duo_back (fun k hk => h k (List.mem_cons_of_mem _ hk)) (by simpa using h2) p3 fun e he => ko e (List.mem_cons_of_mem _ he)
    have hk := h k List.mem_cons_self
    have p1 : (mixKind P w).is (lk k) e.key = true := p1
    have rv : RelV (lvV k) e.key := by
      rw [← leaf_kV hk]
      exact relV_key p1
    refine ⟨e.key :: xs, .cons rv g1, ?_⟩
    obtain ⟨k', q1, q2⟩ := ko e List.mem_cons_self
    have ek : k' = lk k := (mixKind P w).inj _ _ _ q1 p1
    subst ek
    have hh : e.hash = (nk k).hash w := by
      rw [leaf_hash hk]
      exact q2
    rw [g2]
    show e :: _ = ⟨_, _, _⟩ :: _
    have p2 : e.val = y := p2
    rw [← hh, ← p2]
end
end DL

/- part -/
set_option Elab.async false
set_option linter.all false
set_option maxRecDepth 100000
set_option maxHeartbeats 4000000
namespace DL
open PySem PySem.Spec PyProof.Rows L2
def SoOk (k : D) (ks : List D) : Prop := (leafD k = true ∧ ∀ z ∈ ks, leafD z = true) ∨ (isTupD k = true ∧ ∀ z ∈ ks, isTupD z = true)
mutual
theorem kOk_depth : ∀ (n : Nat) (d : D), kOk n d = true → (nk d).depth ≤ n
  | n, .int i, _ => by simp [nk, NestedKey.depth]
  | n, .str i, _ => by simp [nk, NestedKey.depth]
  | n, .non, _ => by simp [nk, NestedKey.depth]
  | 0, .tup ds, h => by
    unfold kOk at h
    cases h
  | n + 1, .tup ds, h => by
    unfold kOk at h
    have := kOks_depth n ds h
    unfold nk NestedKey.depth
    omega
  | n, .bl _, _ => by simp [nk, NestedKey.depth]
  | n, .lst _, _ => by simp [nk, NestedKey.depth]
  | n, .scr _, _ => by simp [nk, NestedKey.depth]
  | n, .tl _ _, _ => by simp [nk, NestedKey.depth]
  | n, .obj _ _, _ => by simp [nk, NestedKey.depth]
  | n, .fn _, _ => by simp [nk, NestedKey.depth]
  | n, .exc _ _, _ => by simp [nk, NestedKey.depth]
  | n, .xt _ _ _, _ => by simp [nk, NestedKey.depth]
theorem kOks_depth : ∀ (n : Nat) (ds : List D), kOks n ds = true → NestedKey.depthAll (nks ds) ≤ n
  | n, [], _ => by simp [nks, NestedKey.depthAll]
  | n, d :: ds, h => by
    unfold kOks at h
    obtain ⟨h1, h2⟩ := Bool.and_eq_true_iff.mp h
    have a := kOk_depth n d h1
    have b := kOks_depth n ds h2
    unfold nks NestedKey.depthAll
    omega
end
theorem nkV_leaf {K : PySem.W.Frag} {H : Hp} {k : D} {y : V} (h : leafD k = true) (n : NkV K H y (nk k)) : y = lvV k := by
  cases k <;> first
    | (unfold leafD at h; cases h; done)
    | skip
  all_goals
    unfold nk at n
    cases n
    rfl
theorem nkVs_leaf {K : PySem.W.Frag} {H : Hp} : ∀ {ks : List D} {us : List V}, (∀ k ∈ ks, leafD k = true) → NkVs K H us (ks.map nk) → us = ks.map lvV
  | [], _, _, .nil => rfl
  | k :: ks, _, h, .cons r t => by
    rw [nkV_leaf (h k List.mem_cons_self) r, nkVs_leaf (fun z hz => h z (List.mem_cons_of_mem _ hz)) t]
    rfl
theorem nkV_tup {K : PySem.W.Frag} {H : Hp} {k : D} {y : V} (h : isTupD k = true) (n : NkV K H y (nk k)) : ∃ b, y = .ref b := by
  cases k <;> first
    | (unfold isTupD at h; cases h; done)
    | skip
  unfold nk at n
  cases n
  exact ⟨_, rfl⟩
theorem nkVs_tup {K : PySem.W.Frag} {H : Hp} : ∀ {ks : List D} {us : List V} {xs : List Value}, (∀ k ∈ ks, isTupD k = true) → NkVs K H us (ks.map nk) → Vals us xs → Refs xs
  | [], _, _, _, .nil, .nil => .nil
  | k :: ks, _, _, h, .cons r t, .cons rv tv => by
    obtain ⟨b, rfl⟩ := nkV_tup (h k List.mem_cons_self) r
    cases (show _ = Value.ref b from rv)
    exact .cons (nkVs_tup (fun z hz => h z (List.mem_cons_of_mem _ hz)) t tv)
structure KeyAt (M : Mx) (H : Hp) (a : Addr) (us ws : List V) (ks vs : List D) (y : V) (k : D) : Prop where
  at_ : ∃ a' : Addr × Obj, H a = some (XtO M .dct a' us ws ks vs)
  nus : NkVs M.K H us (ks.map nk)
  ny : NkV M.K H y (nk k)
  ok : kOk 8 k = true
  so : SoOk k ks
section
variable {M : Mx} {X : Cx} {pins : List (Addr × Obj)} {σ : L2.St} {H : Hp} {s : Shared} {a : Addr} {us ws : List V} {ks vs : List D} {y v : V} {k : D} {u r : Value} {A : Around} {E : Value → Shared → Prop}
theorem dctP_of (hW : M.w = X.w) (I : Inv X pins σ H s) (h : ∃ a' : Addr × Obj, H a = some (XtO M .dct a' us ws ks vs)) :
    (a == sysModules) = false ∧ KsOk ks ∧ us.length = ks.length ∧ ws.length = ks.length ∧ ks.length ≤ 1000000 ∧ ∃ (xs ys : List Value) (ep : Nat), Vals us xs ∧ Vals ws ys ∧ s.heap.DictRaw a (entL X.w ks xs ys).toArray ep := by
  obtain ⟨a', e⟩ := h
  rw [← hW]
  obtain ⟨p1, q1, q2, q3, q4, q5, xs, ys, ep, r1, r2, hc, hd⟩ := dct_ok (I.hok a _ e)
  exact ⟨q1, q2, q3, q4, q5, xs, ys, ep, r1, r2, _, p1, hc, hd⟩
theorem leaf_of (hW : M.w = X.w) (hK : M.K = X.K) (I : Inv X pins σ H s) (g : KeyAt M H a us ws ks vs y k) (lf : leafD k = true) (la : ∀ z ∈ ks, leafD z = true) (ry : RelV y u) :
    (a == sysModules) = false ∧ KsOk ks ∧ ws.length = ks.length ∧ ks.length ≤ 1000000 ∧ (mixKind X.prog X.w).is (lk k) u = true ∧ ∃ ys, Vals ws ys ∧ s.heap.DictOf (mixKind X.prog X.w) a (duo ks ys) ∧ ys.length = ks.length := by
  obtain ⟨q1, q2, q3, q4, q5, xs, ys, ep, r1, r2, o, ho, hc, hd⟩ := dctP_of hW I g.at_
  have eu := nkVs_leaf la g.nus
  have ey := nkV_leaf lf g.ny
  subst eu ey
  have ly : ys.length = ks.length := by rw [← r2.length]; exact q4
  refine ⟨q1, q2, q4, q5, kV_is (by rw [leaf_kV lf]; exact ry), ys, r2, ⟨o, _, ep, ho, hc, hd, duo_keysOf la r1 ly, by simpa using duo_pairs la r1 ly, ?_⟩, ly⟩
  rw [duo_keys ly]
  exact (leaf_nodup la).mp q2.1
theorem all_is (I : Inv X pins σ H s) : ∀ {ks : List D} {us : List V} {xs ys : List Value}, (∀ k ∈ ks, kOk 8 k = true) → NkVs X.K H us (ks.map nk) → Vals us xs → ∀ z ∈ tri ks xs ys, (nestedKind X.prog X.w).is s.heap z.1 z.2.1
  | [], _, _, _, _, _, _, z, hz => by cases hz
  | k :: ks, _, _, [], _, .cons r t, .cons rv tv, z, hz => by
    rename_i b bs
    cases b <;> cases hz
  | k :: ks, _, _, y :: ys, h, .cons r t, .cons rv tv, z, hz => by
    have ih := all_is I (ys := ys) (fun z hz => h z (List.mem_cons_of_mem _ hz)) t tv
    have is1 := NkV.is I _ _ _ r rv
    rename_i b bs
    cases b with
    | ref b =>
      rcases List.mem_cons.mp hz with rfl | hz
      · exact ⟨is1, kOk_depth 8 k (h k List.mem_cons_self)⟩
      · exact ih z hz
    | _ => cases hz
theorem tup_of (hW : M.w = X.w) (hK : M.K = X.K) (I : Inv X pins σ H s) (g : KeyAt M H a us ws ks vs y k) (lf : isTupD k = true) (la : ∀ z ∈ ks, isTupD z = true) (ry : RelV y u) :
    (a == sysModules) = false ∧ KsOk ks ∧ ws.length = ks.length ∧ ks.length ≤ 1000000 ∧ ∃ b, y = .ref b ∧ u = .ref b ∧ (nestedKind X.prog X.w).is s.heap (nk k) b ∧ ∃ xs ys, Refs xs ∧ Vals us xs ∧ Vals ws ys ∧ s.heap.DictOfH (nestedKind X.prog X.w) a (tri ks xs ys) ∧ xs.length = ks.length ∧ ys.length = ks.length := by
  obtain ⟨q1, q2, q3, q4, q5, xs, ys, ep, r1, r2, o, ho, hc, hd⟩ := dctP_of hW I g.at_
  obtain ⟨b, rfl⟩ := nkV_tup lf g.ny
  cases (show u = Value.ref b from ry)
  have ly : ys.length = ks.length := by rw [← r2.length]; exact q4
  have lx : xs.length = ks.length := by rw [← r1.length]; exact q3
  have rf := nkVs_tup la g.nus r1
  have nus := g.nus
  have ny := g.ny
  rw [hK] at nus ny
  refine ⟨q1, q2, q4, q5, b, rfl, rfl, ⟨NkV.is I _ _ _ ny rfl, kOk_depth 8 k g.ok⟩, xs, ys, rf, r1, r2, ⟨o, _, ep, ho, hc, hd, ?_, all_is I q2.2.1 nus r1, ?_⟩, lx, ly⟩
  · rw [List.toList_toArray]
    exact tri_ent rf
  · rw [tri_keys rf lx ly]
    exact q2.1
end
end DL

/- part -/
set_option Elab.async false
set_option linter.all false
set_option maxRecDepth 100000
set_option maxHeartbeats 4000000
namespace DL
open PySem PySem.Spec PyProof.Rows L2
def soB (k : D) (ks : List D) : Bool := (leafD k && ks.all leafD) || (isTupD k && ks.all isTupD)
def kyB (k : D) (ks : List D) : Bool := kOk 8 k && soB k ks
theorem soB_of {k : D} {ks : List D} (h : soB k ks = true) : SoOk k ks := by
  unfold soB at h
  rcases Bool.or_eq_true_iff.mp h with h | h
  · obtain ⟨a, b⟩ := Bool.and_eq_true_iff.mp h
    exact .inl ⟨a, fun z hz => List.all_eq_true.mp b z hz⟩
  · obtain ⟨a, b⟩ := Bool.and_eq_true_iff.mp h
    exact .inr ⟨a, fun z hz => List.all_eq_true.mp b z hz⟩
def dGet (k : D) (ks vs : List D) : Option D := (fIx (nk k) ks).bind fun i => vs[i]?
def dHas (k : D) (ks : List D) : Bool := (fIx (nk k) ks).isSome
section
variable {M : Mx} {W : WX} {X : Cx} {F H F' H' F1 H1 H0 : Hp} {σ : L2.St} {ρ ρ1 : SE}
variable {P : Program} {w : World} {base : Heap} {N : List Str} {sc : Scope} {j : Nat}
variable {a b c e k : Expr} {ma mb mc m mk : DM RV} {es : List Expr} {ms : DM (List AV)} {pos p p2 q : Pos}
theorem Reps.nkVs (sub : SubF F H) : ∀ {ks : List D} {us : List V}, (∀ k ∈ ks, kOk 8 k = true) → Reps M F us ks → NkVs M.K H us (ks.map nk)
  | _, _, _, .nil => .nil
  | _, _, h, .cons r t => .cons (Rep.nkV sub 8 _ _ (h _ List.mem_cons_self) r).1 (Reps.nkVs sub (fun z hz => h z (List.mem_cons_of_mem _ hz)) t)
theorem vw_key {v : V} {d : D} (h : kOk 8 d = true) (r : Vw M F H v d) : Rep M F v d := by
  cases d <;> first
    | exact r
    | (unfold kOk at h; cases h)
def KeyLike (M : Mx) (H : Hp) (a : Addr) (us ws : List V) (ks vs : List D) (y : V) (k : D) : Prop := (∃ a' : Addr × Obj, H a = some (XtO M .dct a' us ws ks vs)) ∧ ((∀ k ∈ ks, kOk 8 k = true) → KeyAt M H a us ws ks vs y k)
theorem KeyLike.get {pn : List (Addr × Obj)} {s : Shared} {x : Addr} {us ws : List V} {ks vs : List D} {y : V} {kd : D} (hW : M.w = X.w) (I : Inv X pn σ H s) (g : KeyLike M H x us ws ks vs y kd) : KeyAt M H x us ws ks vs y kd := g.2 (dctP_of hW I g.1).2.1.2.1
theorem keyLike (sub : SubF F H) {x y : V} {ks vs : List D} {kd : D} (hx : Vw M F H x (.xt .dct ks vs)) (hy : Vw M F H y kd) (h : kyB kd ks = true) : ∃ (ad : Addr) (us ws : List V), x = .ref ad ∧ Reps M F us ks ∧ Reps M F ws vs ∧ KeyLike M H ad us ws ks vs y kd := by
  obtain ⟨ad, a', us, ws, e, h1, h2, h3⟩ := hx
  obtain ⟨k1, k2⟩ := Bool.and_eq_true_iff.mp h
  exact ⟨ad, us, ws, e, h2, h3, ⟨a', h1⟩, fun ok => ⟨⟨a', h1⟩, Reps.nkVs sub ok h2, (Rep.nkV sub 8 kd _ k1 (vw_key k1 hy)).1, k1, soB_of k2⟩⟩
theorem ksOk_nil : KsOk [] := ⟨List.nodup_nil, by simp, .inl (by simp)⟩
def newD : Obj := { cls := .type "dict", data := .dict #[] }
theorem dct_empty {a : Addr} (hb : sysModules < a) {v : World} : DctF v a newD [] [] [] :=
  ⟨beq_eq_false_iff_ne.mpr (Ne.symm (Nat.ne_of_lt hb)), ksOk_nil, rfl, rfl, by simp, [], [], 0, .nil, .nil, ⟨rfl, rfl, rfl⟩, rfl⟩
end
end DL

/- part -/
set_option Elab.async false
set_option linter.all false
set_option maxRecDepth 100000
set_option maxHeartbeats 4000000
namespace DL
open PySem PySem.Spec PyProof.Rows L2
section
variable {M : Mx} {W : WX} {X : Cx} {F H F' H' F1 H1 H0 : Hp} {σ : L2.St} {ρ ρ1 : SE}
variable {P : Program} {w : World} {base : Heap} {N : List Str} {sc : Scope} {j : Nat}
variable {a b c e k : Expr} {ma mb mc m mk : DM RV} {mv : DM (List D)} {es : List Expr} {ms : DM (List AV)} {pos p p2 q : Pos}
end
end DL

/- part -/
set_option Elab.async false
set_option linter.all false
set_option maxRecDepth 100000
set_option maxHeartbeats 4000000
namespace DL
open PySem PySem.Spec PyProof.Rows L2
section
variable {M : Mx} {W : WX} {X : Cx} {F H F' H' F1 H1 H0 : Hp} {σ : L2.St} {ρ ρ1 : SE}
variable {P : Program} {w : World} {base : Heap} {N : List Str} {sc : Scope} {j : Nat}
variable {a b c e k v : Expr} {ma mb mc m mk mv : DM RV} {es : List Expr} {pos p p2 q : Pos}
theorem free_updX {F0 : Hp} {σ0 : L2.St} {ρ0 : SE} {x : Addr} {o o' : HO} (st : Stp F0 H0 σ0 ρ0 F H σ ρ) (sm : Sim M F H σ ρ) (hx : H x = some o) (nt : ∀ ps, o ≠ .tbl ps) (nc : ∀ q, o ≠ LamX.CodeO x q) (nt' : ∀ ps, o' ≠ .tbl ps) (n0 : Fre H0 x) (nF : F x = none) (no : ¬ Own σ ρ x) :
    Stp F0 H0 σ0 ρ0 F (upd H x o') σ ρ ∧ Sim M F (upd H x o') σ ρ := by
  have tb : LamX.Tabs M.T (upd H x o') := fun p hp => by
    obtain ⟨ps, h1, h2, h3⟩ := sm.tabs p hp
    refine ⟨ps, ?_, h2, fun pos cv hc => ?_⟩
    · rw [upd_ne]
      · exact h1
      · intro z
        rw [z, hx] at h1
        exact nt _ (Option.some.inj h1)
    · obtain ⟨c, e1, e2⟩ := h3 pos cv hc
      refine ⟨c, e1, ?_⟩
      rw [upd_ne]
      · exact e2
      · intro z
        subst z
        rw [hx] at e2
        exact nc _ (Option.some.inj e2)
  refine ⟨⟨st.same, fun b u h n t => ?_, st.new, st.newF, fun b z => ?_, st.io, st.noio⟩, ⟨⟨⟨fun b u h nb => ?_, fun b n vs h => ?_⟩, sm.ntb⟩, tb, sm.len, sm.im, fun i io ds z => ?_, sm.inj⟩⟩
  · rw [upd_ne (n0.ne h t)]
    exact st.keep b u h n t
  · exact st.dom b (z.back nt')
  · rw [upd_ne (ne_of_none h nF)]
    exact sm.sub.go b u h nb
  · rw [upd_ne (ne_of_none h nF)]
    exact sm.sub.bk b n vs h
  · obtain ⟨a, u, e1, e2, e3, e4⟩ := sm.ow i io ds z
    refine ⟨a, u, e1, ?_, e3, e4⟩
    rw [upd_ne]
    · exact e2
    · intro z2
      subst z2
      exact no ⟨i, ⟨io, ds, z⟩, e1⟩
def PostPr (M : Mx) (W : WX) (σ : L2.St) (ρ : SE) (F H : Hp) (r : R (List (D × D))) (Q : List (V × V) → Hp → Prop) : Prop := match r with
  | .bad => False
  | .ok kv ρ' => ∀ F' H' ps, Stp F H σ ρ F' H' σ ρ' → Sim M F' H' σ ρ' → Reps M F' (ps.map (·.1)) (kv.map (·.1)) → Reps M F' (ps.map (·.2)) (kv.map (·.2)) → Q ps H'
  | .ex e ρ' => ∀ F' H' cls d, Stp F H σ ρ F' H' σ ρ' → Sim M F' H' σ ρ' → ExcOk M F' H' cls d e → W cls d σ H'
def DPs (X : Cx) (M : Mx) (W : WX) (pos : Pos) (ks : List (Option Expr)) (vs : List Expr) (m : DM (List (D × D))) : Prop := ∃ trs, PPs X pos ks vs trs ∧ ∀ σ H F ρ Q, Sim M F H σ ρ → PostPr M W σ ρ F H (m ρ) Q → tPairs trs σ H Q
def pNil : DM (List (D × D)) := fun ρ => .ok [] ρ
def pCons (mk mv : DM RV) (ms : DM (List (D × D))) : DM (List (D × D)) := fun ρ => (dFz mk ρ).bind fun k ρ1 => (dFz mv ρ1).bind fun v ρ2 => (ms ρ2).bind fun r ρ3 => .ok ((k, v) :: r) ρ3
theorem PostPr.from {r : R (List (D × D))} {Q : List (V × V) → Hp → Prop} (st : Stp F H σ ρ F1 H1 σ ρ1) (h : PostPr M W σ ρ F H r Q) : PostPr M W σ ρ1 F1 H1 r Q := by
  cases r with
  | bad => exact h
  | ok kv ρ2 => exact fun F2 H2 ps st2 sm r1 r2 => h F2 H2 ps (st.trans st2) sm r1 r2
  | ex e ρ2 => exact fun F2 H2 cls d st2 sm ok => h F2 H2 cls d (st.trans st2) sm ok
theorem dps_nil : DPs X M W pos [] [] pNil := ⟨[], pps_nil, fun σ H F ρ Q sm h => h F H [] (Stp.refl _ _ _ _) sm .nil .nil⟩
theorem dps_cons {ks : List (Option Expr)} {vs : List Expr} {ms : DM (List (D × D))} (hk : DE X M W k mk) (hv : DE X M W v mv) (hr : DPs X M W pos ks vs ms) : DPs X M W pos (some k :: ks) (v :: vs) (pCons mk mv ms) := by
  obtain ⟨tk, pk, qk⟩ := hk
  obtain ⟨tv, pv, qv⟩ := hv
  obtain ⟨tr, pr, qr⟩ := hr
  refine ⟨_, pps_cons pk pv pr, fun σ H F ρ Q sm h => ?_⟩
  refine qk σ H F ρ _ sm (PostD.go (PostD.step (P := fun r => PostPr M W σ ρ F H r Q) (fun z => z) (fun e ρ' z => z) h fun kd ρ1 F1 H1 x st1 sm1 r1 h1 => ?_))
  refine qv σ H1 F1 ρ1 _ sm1 (PostD.go (PostD.step (P := fun r => PostPr M W σ ρ1 F1 H1 r Q) (fun z => z) (fun e ρ' z => z) (PostPr.from st1 h1) fun vd ρ2 F2 H2 y st2 sm2 r2 h2 => ?_))
  refine qr σ H2 F2 ρ2 _ sm2 ?_
  have h2 := PostPr.from st2 h2
  cases em : ms ρ2 with
  | bad =>
    rw [em] at h2
    exact h2
  | ex e ρ3 =>
    rw [em] at h2
    exact h2
  | ok kv ρ3 =>
    rw [em] at h2
    exact fun F3 H3 ps st3 sm3 q1 q2 => h2 F3 H3 _ st3 sm3 (.cons (r1.up (st2.same.trans st3.same)) q1) (.cons (r2.up st3.same) q2)
def nodK : List D → Bool
  | [] => true
  | k :: r => (fIx (nk k) r).isNone && nodK r
theorem nodK_of : ∀ {ks : List D}, nodK ks = true → (ks.map nk).Nodup
  | [], _ => List.nodup_nil
  | k :: r, h => by
    obtain ⟨h1, h2⟩ := Bool.and_eq_true_iff.mp h
    rw [List.map_cons, List.nodup_cons]
    refine ⟨fun z => ?_, nodK_of h2⟩
    obtain ⟨y, hy, e⟩ := List.mem_map.mp z
    exact fIx_none (Option.isNone_iff_eq_none.mp h1) y hy e
theorem merged_new : ∀ {kvs : List (Key × Value)} {acc : List (Key × Value)}, ((acc ++ kvs).map (·.1)).Nodup → merged acc kvs = acc ++ kvs
  | [], acc, _ => by
    show acc = acc ++ []
    rw [List.append_nil]
  | kv :: kvs, acc, h => by
    have e : stored acc kv.1 kv.2 = acc ++ [kv] := by
      unfold stored
      rw [if_neg]
      intro z
      obtain ⟨y, hy, ey⟩ := List.any_eq_true.mp z
      rw [List.map_append, List.nodup_append] at h
      exact h.2.2 y.1 (List.mem_map.mpr ⟨y, hy, rfl⟩) kv.1 (List.mem_map.mpr ⟨kv, List.mem_cons_self, rfl⟩) (of_decide_eq_true ey)
    show merged (stored acc kv.1 kv.2) kvs = _
    rw [e, merged_new (by rw [List.append_assoc]; exact h), List.append_assoc]
    rfl
def tXDisp (M : Mx) (trs : List (TE × TE)) : TE := fun σ H Q => ∀ p, H p = none → tPairs trs σ (upd H p (XtO M .dct (p, newD) [] [] [] [])) fun ps H2 => H2 p = some (XtO M .dct (p, newD) [] [] [] []) ∧
  ∃ ks vs : List D, (∀ z ∈ ks, leafD z = true) ∧ ps.map (·.1) = ks.map lvV ∧ (ks.map nk).Nodup ∧ ks.length ≤ 15 ∧ ∀ o', Q (.ref p) (upd H2 p (XtO M .dct (p, o') (ps.map (·.1)) (ps.map (·.2)) ks vs))
theorem carry_duo {P : Program} {w : World} : ∀ {ks : List D} {ps : List (V × V)} {us : List (Value × Value)}, (∀ z ∈ ks, leafD z = true) → ps.map (·.1) = ks.map lvV → VV ps us → ∃ ys, Carries (mixKind P w) us (duo ks ys) ∧ Vals (ps.map (·.2)) ys ∧ ys.length = ks.length
  | [], [], _, _, _, .nil => ⟨[], True.intro, .nil, rfl⟩
  | [], _ :: _, _, _, h, _ => by simp at h
  | _ :: _, [], _, _, h, _ => by simp at h
  | k :: ks, p :: ps, _, lf, h, .cons (b := b) r t => by
    simp only [List.map_cons, List.cons.injEq] at h
    obtain ⟨h1, h2⟩ := h
    obtain ⟨ys, c, vv, ly⟩ := carry_duo (P := P) (w := w) (fun z hz => lf z (List.mem_cons_of_mem _ hz)) h2 t
    have lk0 := lf k List.mem_cons_self
    refine ⟨b.2 :: ys, ⟨kV_is ?_, rfl, c⟩, .cons r.2 vv, by simp [ly]⟩
    rw [leaf_kV lk0, ← h1]
    exact r.1
theorem leaf_kOk {d : D} (h : leafD d = true) : kOk 8 d = true := by
  cases d <;> first
    | (unfold leafD at h; cases h; done)
    | rfl
theorem pe_xdisp {keys : List (Option Expr)} {values : List Expr} {trs : List (TE × TE)} (hW : M.w = X.w) (h : PPs X pos keys values trs) (hall : keys.all (·.isSome) = true) (hl : keys.length = values.length) (h0 : keys ≠ [])
    (h15 : keys.length ≤ 15) : PE X (.Dict keys values pos) (tXDisp M trs) :=
  ⟨fun pn t τ G Q J g => by
    have hn := J.hok.fresh (Nat.le_refl t.heap.objs.size)
    have J1 := J.laid (a := t.heap.objs.size) (o := XtO M .dct (t.heap.objs.size, newD) [] [] [] []) (h' := t.heap.push newD) (t' := t.toks) (fun _ _ q => Heap.get?_push_of_some _ q) (Nat.le_refl _) (dct_new (Heap.get?_push_size _ rfl) (dct_empty J.big))
    refine wpAny_Dict_walk (knd := mixKind X.prog X.w) hall hl h0 h15 (thn (h.run pn _ τ _ _ J1 (g _ hn)) fun us t2 ⟨ps, G2, J2, rel, e, ks, vs, lf, eks, nd, few, g2⟩ => ?_)
    obtain ⟨ys, c, vv, ly⟩ := carry_duo (P := X.prog) (w := X.w) lf eks rel
    obtain ⟨p1, q1, _⟩ := dct_ok (J2.hok _ _ e)
    refine ⟨duo ks ys, c, ⟨newD, #[], 0, p1, ⟨rfl, rfl, rfl⟩, rfl, (by intro e he; simp at he), .nil, List.nodup_nil⟩, fun h' dd hs => ?_⟩
    have nd2 := (leaf_nodup lf).mp nd
    rw [merged_new (acc := []) (by rw [List.nil_append, duo_keys ly]; exact nd2), List.nil_append] at dd
    obtain ⟨o, es, ep, ho, hc, hd, ko, pr, _⟩ := dd
    obtain ⟨xs, g3, g4⟩ := duo_back lf ly pr fun e he => ko e (by simpa using he)
    refine ⟨.ref t.heap.objs.size, _, d_write J2 (by rw [e]; exact True.intro) hs ⟨o, ho⟩ (dct_new (vs := vs) (us := ps.map (·.1)) (ws := ps.map (·.2)) (ks := ks) ho ?_), rfl, g2 o⟩
    refine ⟨q1, ⟨nd, fun z hz => leaf_kOk (lf z hz), .inl lf⟩, by rw [eks, List.length_map], by rw [vv.length, ly], by omega, xs, ys, ep, by rw [eks]; exact g3, vv, hc, ?_⟩
    rw [hd, hW, ← g4]⟩
def dDisp (mp : DM (List (D × D))) : DM RV := fun ρ => (mp ρ).bind fun kv ρ1 => if ((kv.map (·.1)).all leafD && nodK (kv.map (·.1)) && decide (kv.length ≤ 15)) = true then .ok (.ow (.xt .dct (kv.map (·.1)) (kv.map (·.2)))) ρ1 else .bad
theorem de_xdisp (C : CxD P w base M N sc j X W) (hW : M.w = w) {keys : List (Option Expr)} {values : List Expr} {mp : DM (List (D × D))} (h : DPs X M W pos keys values mp) (hall : keys.all (·.isSome) = true := by rfl) (hl : keys.length = values.length := by rfl) (h0 : keys ≠ [] := by intro z; cases z)
    (h15 : keys.length ≤ 15 := by decide) : DE X M W (.Dict keys values pos) (dDisp mp) := by
  obtain ⟨trs, pp, qq⟩ := h
  refine ⟨_, pe_xdisp (hW.trans C.hw.symm) pp hall hl h0 h15, fun σ H F ρ Q sm g p hp => ?_⟩
  have al := Alc.new (o := XtO M .dct (p, newD) [] [] [] []) sm.sub hp
  refine qq σ _ F ρ _ (sm.alc al) ?_
  have g : Post M W σ ρ F H ((mp ρ).bind fun kv ρ1 => if ((kv.map (·.1)).all leafD && nodK (kv.map (·.1)) && decide (kv.length ≤ 15)) = true then .ok (.ow (.xt .dct (kv.map (·.1)) (kv.map (·.2)))) ρ1 else .bad) Q := g
  cases em : mp ρ with
  | bad =>
    rw [em] at g
    exact g
  | ex e ρ1 =>
    rw [em] at g
    exact fun F1 H1 cls d st sm1 ok => g F1 H1 cls d ((al.stp σ ρ).trans st) sm1 ok
  | ok kv ρ1 =>
    rw [em] at g
    have g : Post M W σ ρ F H (if ((kv.map (·.1)).all leafD && nodK (kv.map (·.1)) && decide (kv.length ≤ 15)) = true then .ok (.ow (.xt .dct (kv.map (·.1)) (kv.map (·.2)))) ρ1 else .bad) Q := g
    split at g
    · rename_i hc
      obtain ⟨hc, c3⟩ := Bool.and_eq_true_iff.mp hc
      obtain ⟨c1, c2⟩ := Bool.and_eq_true_iff.mp hc
      have l15 : kv.length ≤ 15 := of_decide_eq_true c3
      have lf : ∀ z ∈ kv.map (·.1), leafD z = true := fun z hz => List.all_eq_true.mp c1 z hz
      intro F1 H1 ps st1 sm1 r1 r2
      have nO0 : ¬ Own σ ρ p := fun z => by
        obtain ⟨_, o, e2, _⟩ := sm.ownF z
        rw [hp] at e2
        cases e2
      have at1 : H1 p = some (XtO M .dct (p, newD) [] [] [] []) := st1.keep _ _ upd_same nO0 (fun ps z => by cases z)
      have nt1 : ∀ ps, XtO M .dct (p, newD) [] [] [] [] ≠ .tbl ps := fun ps z => by cases z
      have nF1 : F1 p = none := by
        cases ef : F1 p with
        | none => rfl
        | some u =>
          rcases st1.newF p u ef with z | z | z
          · rw [sm.sub.free hp] at z
            cases z
          · exact (nO0 z).elim
          · exact (z.no upd_same nt1).elim
      have nO1 : ¬ Own σ ρ1 p := fun z => by
        rcases st1.new p z with z | z
        · exact nO0 z
        · exact z.no upd_same nt1
      refine ⟨at1, kv.map (·.1), kv.map (·.2), lf, leaf_reps lf r1, nodK_of c2, by rw [List.length_map]; exact l15, fun o' => ?_⟩
      obtain ⟨st2, sm2⟩ := free_updX (o' := XtO M .dct (p, o') (ps.map (·.1)) (ps.map (·.2)) (kv.map (·.1)) (kv.map (·.2))) ((al.stp σ ρ).trans st1) sm1 at1 nt1 (fun q => ne_xt_code) (fun ps z => by cases z) (.of hp) nF1 nO1
      exact g F1 _ _ st2 sm2 ⟨p, _, rfl, upd_same, nF1, .xt r1 r2, nO1, .of hp⟩
    · exact g.elim
end
end DL

/- part -/
set_option Elab.async false
set_option linter.all false
set_option maxRecDepth 100000
set_option maxHeartbeats 4000000
namespace DL
open PySem PySem.Spec PyProof.Rows L2
section
variable {M : Mx} {W : WX} {X : Cx} {F H F' H' F1 H1 H0 : Hp} {σ : L2.St} {ρ ρ1 : SE}
variable {P : Program} {w : World} {base : Heap} {N : List Str} {sc : Scope} {j : Nat}
variable {a b c e k v : Expr} {ma mb mc m mk mv : DM RV} {es : List Expr} {pos p p2 q : Pos}
end
end DL

/- part -/
set_option Elab.async false
set_option linter.all false
set_option maxRecDepth 100000
set_option maxHeartbeats 4000000
namespace DL
open PySem PySem.Spec PyProof.Rows L2
section
variable {M : Mx} {X : Cx} {pins : List (Addr × Obj)} {σ : L2.St} {H : Hp} {s : Shared} {a : Addr} {us ws : List V} {ks vs : List D} {y v z : V} {k : D} {u r : Value} {A : Around} {E : Value → Shared → Prop}
theorem x_get2 {Q : Value → Shared → Prop} (hW : M.w = X.w) (hK : M.K = X.K) (hu : A.units + 64 < cLine) (I : Inv X pins σ H s) (g : KeyAt M H a us ws ks vs y k) (ry : RelV y u) (rz : RelV z r)
    (h : ∀ w' s', Inv X pins σ H s' → RelV (((fIx (nk k) ks).bind fun i => ws[i]?).getD z) w' → Q w' s') : wpAny (model X.prog X.w) A (call (.builtin "dict.get") [.ref a, u, r]) Q E s := by
  have val : ∀ {ys : List Value}, Vals ws ys → RelV (((fIx (nk k) ks).bind fun i => ws[i]?).getD z) (((fIx (nk k) ks).bind fun i => ys[i]?).getD r) := fun {ys} rv => by
    cases fIx (nk k) ks with
    | none => exact rz
    | some i =>
      show RelV ((ws[i]?).getD z) ((ys[i]?).getD r)
      cases e : ws[i]? with
      | none =>
        have := List.getElem?_eq_none_iff.mp e
        rw [List.getElem?_eq_none (by rw [← rv.length]; exact this)]
        exact rz
      | some v =>
        obtain ⟨q, hq, rq⟩ := rv.get e
        rw [hq]
        exact rq
  rcases g.so with ⟨lf, la⟩ | ⟨lf, la⟩
  · obtain ⟨q1, q2, q4, q5, is, ys, r2, dd, ly⟩ := leaf_of hW hK I g lf la ry
    refine call_meetsIn PySem.F.slot_dict_get dd.typeIs PySem.F.entry_dict_get (PySem.F.args_dict_get_3 _ _ _) (meets_dict_get_default (mixKind X.prog X.w) a is q1 r) ⟨_, dd.mapOf, h _ _ (I.tok _) ?_⟩
    rw [duo_at lf la ly]
    exact val r2
  · obtain ⟨q1, q2, q4, q5, b, rfl, rfl, is, xs, ys, rf, r1, r2, dd, lx, ly⟩ := tup_of hW hK I g lf la ry
    have e := tri_at (q := nk k) rf lx ly
    refine call_meetsIn PySem.F.slot_dict_get dd.typeIs PySem.F.entry_dict_get (PySem.F.args_dict_get_3 _ _ _) (meetsH_dict_get_default (nestedKind X.prog X.w) a b q1 r) ⟨by show A.in1.units + 8 < cLine; rw [Around.in1_units]; omega, nk k, _, is, dd, h _ _ (I.tok _) ?_⟩
    rw [e]
    exact val r2
end
section
variable {M : Mx} {W : WX} {X : Cx} {F H F' H' F1 H1 H0 : Hp} {σ : L2.St} {ρ ρ1 : SE}
variable {P : Program} {w : World} {base : Heap} {N : List Str} {sc : Scope} {j : Nat}
variable {a b c e k v o : Expr} {ma mb mc m mk mv mo : DM RV} {es : List Expr} {ms : DM (List AV)} {pos p p2 q apos cpos : Pos}
def IsDct (M : Mx) (x : V) (H : Hp) : Prop := ∃ (ad : Addr) (a' : Addr × Obj) (us ws : List V) (ks vs : List D), x = .ref ad ∧ H ad = some (XtO M .dct a' us ws ks vs)
def tXM (M : Mx) (r : V → List V → Hp → VK → Prop) (to : TE) (t : TA) : TE := fun σ H Q => to σ H fun x H1 => IsDct M x H1 ∧ t σ H1 fun xs H2 => r x xs H2 Q
theorem pe_xm {name : Str} {id : String} {r : V → List V → Hp → VK → Prop} {to : TE} {t : TA} (hW : M.w = X.w) (slot : Slot "dict" name id) (hty : typeOf (.builtin id) = pure (.type "method_descriptor")) (hm : MtR X id r) (ho : PE X o to) (ha : PA X (e :: es) t)
    (hbase : attributeBase o name X.env (eval o X.env) = eval o X.env := by rfl)
    (few : ((backTo cpos (starEach (e :: es) X.env)).all (fun z => !z.1) && (backToKw cpos (keywordEach [] X.env)).all (fun z => z.1.isSome)
      && decide ((e :: es).length + ([] : List Keyword).length + (if ([] : List Keyword).isEmpty then 0 else 1) < 30)) = true := by rfl)
    (line : (apos.endLine == cpos.line) = true := by rfl) (hs : starEach (e :: es) X.env = (false, eval e X.env) :: starEach es X.env := by rfl) (hplain : (backTo cpos (starEach es X.env)).any (·.1) = false := by rfl) :
    PE X (.Call (.Attribute o name apos) (e :: es) [] cpos) (tXM M r to t) :=
  ⟨fun pn s0 τ G Q J g => wpAny_Call_method_late hbase few line rfl (thn (ho.run pn s0 τ G _ J g) fun z s1 ⟨x, G1, J1, rx, ⟨ad, a', us, ws, ks, vs, ex, hx⟩, g1⟩ => by
    subst ex
    obtain rfl : z = Value.ref ad := rx
    obtain ⟨p1, _, _, _, _, _, xs, ys, ep, _, _, hc, _⟩ := dct_ok (J1.hok _ _ hx)
    refine ⟨"dict", id, PySem.F.plainAttrs_dict, slot, hty, ⟨_, p1, hc.1⟩, fun q hq => ?_, ?_⟩
    · cases hq
      exact ⟨_, p1, hc.2.1⟩
    have args := ha.run cpos pn s1 τ G1 _ J1 g1
    rw [hs] at args ⊢
    refine Calls.callWith_builtin (by show (false || (backTo cpos (starEach es X.env)).any (·.1)) = false; rw [hplain] <;> rfl) (Calls.evalArgs_plain ?_)
    exact thn args fun vals s2 ⟨zs, G2, J2, rs, g2⟩ => hm pn s2 τ G2 (.ref ad) zs _ vals Q J2 rfl rs g2)⟩
def rXGet2 (M : Mx) : V → List V → Hp → VK → Prop := fun x xs H Q => ∃ (ad : Addr) (us ws : List V) (ks vs : List D) (kd : D) (y z : V), x = .ref ad ∧ xs = [y, z] ∧ KeyLike M H ad us ws ks vs y kd ∧ Q (((fIx (nk kd) ks).bind fun i => ws[i]?).getD z) H
theorem mt_xget2 (hW : M.w = X.w) (hK : M.K = X.K) (hu : X.A.units + 64 < cLine) : MtR X "dict.get" (rXGet2 M) := by
  intro pn t τ G x xs u vals Q J rx rs ⟨ad, us, ws, ks, vs, kd, y, z, ex, exs, kl, g⟩
  subst ex exs
  obtain rfl : u = Value.ref ad := rx
  cases rs with
  | cons r1 rs =>
    cases rs with
    | cons r2 rs =>
      cases rs
      exact x_get2 hW hK hu J (kl.get hW J) r1 r2 fun w' t2 J2 rw' => ⟨_, G, J2, rw', g⟩
def xget2R (o : Option D) (as : Option (List D)) (ρ : SE) : R RV := match o, as with
  | some (.xt .dct ks vs), some [k, z] => if kyB k ks = true then .ok (.im ((dGet k ks vs).getD z)) ρ else .bad
  | _, _ => .bad
def isDctO : Option D → Bool
  | some (.xt .dct _ _) => true
  | _ => false
def dXGet2 (mo : DM RV) (ms : DM (List AV)) : DM RV := fun ρ => (mo ρ).bind fun x ρ1 => if isDctO (look ρ1 x) = true then (ms ρ1).bind fun as ρ2 => xget2R (look ρ2 x) (avD as) ρ2 else .bad
theorem de_xget2 (C : CxD P w base M N sc j X W) (hW : M.w = w) (ho : DE X M W o mo) (ha : DA X M W (e :: es) ms)
    (hbase : attributeBase o "get" X.env (eval o X.env) = eval o X.env := by rfl)
    (few : ((backTo cpos (starEach (e :: es) X.env)).all (fun z => !z.1) && (backToKw cpos (keywordEach [] X.env)).all (fun z => z.1.isSome)
      && decide ((e :: es).length + ([] : List Keyword).length + (if ([] : List Keyword).isEmpty then 0 else 1) < 30)) = true := by rfl)
    (line : (apos.endLine == cpos.line) = true := by rfl) (hs : starEach (e :: es) X.env = (false, eval e X.env) :: starEach es X.env := by rfl) (hplain : (backTo cpos (starEach es X.env)).any (·.1) = false := by rfl) :
    DE X M W (.Call (.Attribute o "get" apos) (e :: es) [] cpos) (dXGet2 mo ms) := by
  obtain ⟨to, po, qo⟩ := ho
  obtain ⟨t, pa, qa⟩ := ha
  refine ⟨_, pe_xm (M := M) (hW.trans C.hw.symm) PySem.F.slot_dict_get PySem.F.type_dict_get (mt_xget2 (hW.trans C.hw.symm) C.hK C.u64) po pa hbase few line hs hplain, fun σ H F ρ Q sm h => ?_⟩
  refine qo σ H F ρ _ sm (Post.go h fun x ρ1 F1 H1 v _ st1 sm1 ok1 h1 => ?_)
  split at h1
  · rename_i hd
    refine ⟨?_, qa σ H1 F1 ρ1 _ sm1 (PostA.goE (Post.from st1 h1) fun as ρ2 F2 H2 us _ st2 sm2 ok2 h2 => ?_)⟩
    · cases el : look ρ1 x with
      | none =>
        rw [el] at hd
        cases hd
      | some d =>
        rw [el] at hd
        have vw := ok1.view0 sm1 el
        cases d with
        | xt kk ks vs =>
          cases kk with
          | dct =>
            obtain ⟨ad, a', us, ws, e1, e2, _⟩ := vw
            exact ⟨ad, a', us, ws, ks, vs, e1, e2⟩
          | oth n => cases hd
        | _ => cases hd
    · unfold xget2R at h2
      split at h2
      · rename_i ks vs kd z e1 e2
        split at h2
        · rename_i hc
          have vw := ok1.view st2 sm2 e1
          have rr := avD_ok ok2 e2
          cases rr with
          | cons r1 rr =>
            cases rr with
            | cons r2 rr =>
              cases rr
              rename_i y z'
              have k1 : kOk 8 kd = true := (Bool.and_eq_true_iff.mp hc).1
              obtain ⟨ad, us, ws, rfl, g1, g2, kl⟩ := keyLike sm2.sub vw (Vw.of sm2.sub r1) (show kyB (unl kd) ks = true by
                cases kd <;> first
                  | exact hc
                  | (unfold kOk at k1; cases k1))
              have eu : unl kd = kd := by
                cases kd <;> first
                  | rfl
                  | (unfold kOk at k1; cases k1)
              rw [eu] at kl
              refine ⟨ad, us, ws, ks, vs, kd, y, z', rfl, rfl, kl, h2 F2 H2 _ st2 sm2 ?_⟩
              show Rep M F2 _ _
              unfold dGet
              cases fIx (nk kd) ks with
              | none => exact r2
              | some i =>
                show Rep M F2 ((ws[i]?).getD z') ((vs[i]?).getD z)
                cases ev : vs[i]? with
                | none =>
                  have := List.getElem?_eq_none_iff.mp ev
                  rw [List.getElem?_eq_none (by rw [g2.length]; exact this)]
                  exact r2
                | some d =>
                  obtain ⟨v, h3, h4⟩ := g2.get ev
                  rw [h3]
                  exact h4
        · exact h2.elim
      · exact h2.elim
  · exact h1.elim
end
end DL

/- part -/
set_option Elab.async false
set_option linter.all false
set_option maxRecDepth 100000
set_option maxHeartbeats 4000000
namespace DL
open PySem PySem.Spec PyProof.Rows L2
section
variable {M : Mx} {X : Cx} {pins : List (Addr × Obj)} {σ : L2.St} {H : Hp} {s : Shared} {a : Addr} {us ws : List V} {ks vs : List D} {y v z : V} {k : D} {u r : Value} {A : Around} {E : Value → Shared → Prop}
end
section
variable {P : Program} {w : World} {base : Heap} {N : List Str} {sc csc : Scope} {j : Nat}
variable {M : Mx} {W : WX} {X Y : Cx} {F H F' H' F1 H1 H0 : Hp} {σ σ1 σ' : L2.St} {ρ ρ1 ρ' : SE} {q : Addr} {o : HO}
variable {tg iter elt e kx vx : Expr} {ifs : List Expr} {own : List (Str × Nat)} {vs sl : List Nat} {gm : D → SE → R Unit} {mt : DM Bool} {me mk mv : DM RV} {mi : DM (List D)} {pos p : Pos}
end
end DL

/- part -/
set_option Elab.async false
set_option linter.all false
set_option maxRecDepth 100000
set_option maxHeartbeats 4000000
namespace DL
open PySem PySem.Spec PyProof.Rows L2
section
variable {M : Mx} {W : WX} {X : Cx} {F H F' H' F1 H1 H0 : Hp} {σ : L2.St} {ρ ρ1 : SE}
variable {P : Program} {w : World} {base : Heap} {N : List Str} {sc : Scope} {j : Nat}
variable {a b c e k v o : Expr} {ma mb mc m mk mv mo : DM RV} {es : List Expr} {ms : DM (List AV)} {pos p p2 q apos cpos : Pos}
end
end DL

/- part -/
set_option Elab.async false
set_option linter.all false
set_option maxRecDepth 100000
set_option maxHeartbeats 1000000
namespace DL
open PySem PySem.Spec PyProof.Rows L2
def dispR (kv : List (D × D)) (ρ : SE) : R RV := if ((kv.map (·.1)).all leafD && nodK (kv.map (·.1)) && decide (kv.length ≤ 15)) = true then .ok (.ow (.xt .dct (kv.map (·.1)) (kv.map (·.2)))) ρ else .bad
section
variable {α : Type} {ρ ρ1 ρ2 : SE} {d e f kd : D} {ks vs : List D} {i j n : Nat} {Q : α → SE → Prop} {E : Exc → SE → Prop}
@[simp] theorem ocD_xt {k : Xk} : OC.D (.xt k ks vs) = .xt k ks vs := rfl
@[simp ↓, simp] theorem u_dDisp {mp : DM (List (D × D))} {c : Cont RV} : Wp (dDisp mp ρ) = Wp ((mp ρ).bind dispR : R RV) := rfl
@[simp ↓, simp] theorem u_pNil {c : Cont (List (D × D))} : Wp (pNil ρ) = Wp (.ok [] ρ : R (List (D × D))) := rfl
@[simp ↓, simp] theorem u_pCons {mk mv : DM RV} {ms : DM (List (D × D))} {c : Cont (List (D × D))} : Wp (pCons mk mv ms ρ) = Wp ((dFz mk ρ).bind fun k ρ1 => (dFz mv ρ1).bind fun v ρ2 => (ms ρ2).bind fun r ρ3 => .ok ((k, v) :: r) ρ3 : R (List (D × D))) := rfl
@[simp ↓, simp] theorem u_dXGet2 {mo : DM RV} {ms : DM (List AV)} {c : Cont RV} : Wp (dXGet2 mo ms ρ) = Wp ((mo ρ).bind fun x ρ1 => if isDctO (look ρ1 x) = true then (ms ρ1).bind fun as ρ2 => xget2R (look ρ2 x) (avD as) ρ2 else .bad : R RV) := rfl
@[simp] theorem isDctO_x : isDctO (some (.xt .dct ks vs)) = true := rfl
@[simp] theorem xget2R_x : xget2R (some (.xt .dct ks vs)) (some [kd, e]) ρ = if kyB kd ks = true then .ok (.im ((dGet kd ks vs).getD e)) ρ else .bad := rfl
end
section
variable {κ : Type} [DecidableEq κ] {f : κ → D} {g : κ → D} {l : List κ} {x : κ} {v : D}
structure KeyF (f : κ → D) : Prop where
  inj : ∀ a b, nk (f a) = nk (f b) → a = b
  ok : ∀ a, kOk 8 (f a) = true
  so : (∀ a, leafD (f a) = true) ∨ ∀ a, isTupD (f a) = true
theorem KeyF.ky (h : KeyF f) : kyB (f x) (l.map f) = true := by
  unfold kyB soB
  rw [h.ok, Bool.true_and, List.all_map, List.all_map]
  rcases h.so with s | s
  · have e : l.all (leafD ∘ f) = true := List.all_eq_true.mpr fun a _ => s a
    rw [s x, e]
    rfl
  · have e : l.all (isTupD ∘ f) = true := List.all_eq_true.mpr fun a _ => s a
    rw [s x, e]
    simp
theorem KeyF.fIx (h : KeyF f) : fIx (nk (f x)) (l.map f) = l.findIdx? fun y => decide (y = x) := by
  induction l with
  | nil => rfl
  | cons y l ih =>
    rw [List.map_cons, List.findIdx?_cons]
    unfold DL.fIx
    by_cases e : y = x
    · subst e
      simp
    · rw [if_neg fun z => e (h.inj _ _ z), ih]
      simp [e]
theorem KeyF.has (h : KeyF f) : dHas (f x) (l.map f) = decide (x ∈ l) := by
  unfold dHas
  rw [h.fIx, List.findIdx?_isSome]
  by_cases m : x ∈ l
  · rw [decide_eq_true m]
    exact List.any_eq_true.mpr ⟨x, m, decide_eq_true rfl⟩
  · rw [decide_eq_false m]
    refine Bool.eq_false_iff.mpr fun z => ?_
    obtain ⟨y, hy, e⟩ := List.any_eq_true.mp z
    exact m (of_decide_eq_true e ▸ hy)
end
end DL

/- part -/
set_option Elab.async false
set_option linter.all false
set_option maxRecDepth 100000
set_option maxHeartbeats 1000000
namespace DL
open PySem PySem.Spec PyProof.Rows L2
section
variable {P : Program} {w : World} {base : Heap} {N : List Str} {sc : Scope} {j : Nat}
variable {M : Mx} {W : WX} {X : Cx} {F H F' H' F1 H1 F2 H2 H0 Ha : Hp} {σ σ1 : L2.St} {ρ ρ' ρ1 ρ2 : SE}
variable {a b : Expr} {ma mb m : DM RV} {es tgs : List Expr} {ms : DM (List SV)} {pos p pt pt2 : Pos} {x y : Str}
inductive SvsOk (M : Mx) (H0 F H : Hp) (σ : L2.St) (ρ : SE) : List V → List SV → Prop
  | nil : SvsOk M H0 F H σ ρ [] []
  | cons {v : V} {sv : SV} {vs : List V} {svs : List SV} : SvOk M H0 F H σ ρ v sv → (∀ oc, sv = .ow false oc → ∀ (i : Nat) (oc' : OC), svs[i]? = some (.ow false oc') → vs[i]? ≠ some v) → SvsOk M H0 F H σ ρ vs svs → SvsOk M H0 F H σ ρ (v :: vs) (sv :: svs)
theorem SvsOk.dom {vs : List V} {svs : List SV} (dom : ∀ b, Fre Ha b → Fre H0 b) (h : SvsOk M Ha F H σ ρ vs svs) : SvsOk M H0 F H σ ρ vs svs := by
  induction h with
  | nil => exact .nil
  | cons h1 h2 _ ih => exact .cons (svOk_dom dom h1) h2 ih
theorem SvsOk.step {vs : List V} {svs : List SV} (h : SvsOk M H0 F H σ ρ vs svs) (st : Stp F H σ ρ F' H' σ ρ') : SvsOk M H0 F' H' σ ρ' vs svs := by
  induction h with
  | nil => exact .nil
  | cons h1 h2 _ ih => exact .cons (svOk_step h1 st) h2 ih
end
section
variable {ρ ρ2 : SE} {i j : Nat} {ma mb : DM RV} {ds : List D} {d : D} {sv : SV} {svs : List SV} {is : List Nat}
end
end DL

/- part -/
set_option Elab.async false
set_option linter.all false
set_option maxRecDepth 100000
set_option maxHeartbeats 4000000
namespace DL
open PySem PySem.Spec PyProof.Rows L2
section
variable {P : Program} {w : World} {base : Heap} {N : List Str} {sc : Scope} {j : Nat}
variable {X : Cx} {M : Mx} {W : WX} {a : Expr} {es : List Expr} {ma : DM RV} {ms mk : DM (List AV)} {kws : List Keyword} {kpos : Pos} {nm : Option Str}
variable {k n : Nat} {f : Addr} {fd : FuncData} {ps ks : List Str} {S : Sp} {B : L2.St → XK} {x : Str} {p pos : Pos} {ta tz : TA} {g : List Value → List Value → List Value} {gV : List V → List V → List V} {gD : List D → List D → List D}
structure CalK (P : Program) (w : World) (base : Heap) (M : Mx) (x : Str) (st : Stmt) (ps : List Str) (kds : List (Str × V)) (k n : Nat) (m : SE → R RV) where
  f : Addr
  fd : FuncData
  g : M.mg x = some (.ref f)
  kp : PySem.W.keepIn M.K (.ref f) = true
  fu : FunD M.K x x (defArgs st) (defBody st) (defScope st) [] kds f fd
  ok : FnOk P w M.K M.mg base (L2.CX P w) k f fd ps (spD M n m)
end
section
variable {M : Mx} {F : Hp}
end
structure DefAtK (M : Mx) (x : Str) (st : Stmt) (ps : List Str) (kds : List (Str × V)) where
  f : Addr
  fd : FuncData
  g : M.mg x = some (.ref f)
  kp : PySem.W.keepIn M.K (.ref f) = true
  fu : FunD M.K x x (defArgs st) (defBody st) (defScope st) [] kds f fd
def DefAtK.cal {M : Mx} {P : Program} {w : World} {base : Heap} {j : Nat} {x : Str} {st : Stmt} {ps : List Str} {kds : List (Str × V)} {n : Nat} {mm : SE → R RV} (d : DefAtK M x st ps kds) (ok : FnOk P w M.K M.mg base (L2.CX P w) j d.f d.fd ps (spD M n mm)) : CalK P w base M x st ps kds j n mm := ⟨d.f, d.fd, d.g, d.kp, d.fu, ok⟩
end DL

/- part -/
set_option Elab.async false
set_option linter.all false
set_option maxRecDepth 100000
set_option maxHeartbeats 4000000
namespace DL
open PySem PySem.Spec PyProof.Rows L2
structure FnG (P : Program) (w : World) (K : PySem.W.Frag) (mg : Str → Option Value) (base : Heap) (k : Nat) (f : Addr) (fd : FuncData) (ps : List Str) (S : Sp) : Prop where
  len : ∀ xs H Q E, S xs H Q E → xs.length = ps.length
  go : ∀ (A : Around) (outer : List Env) (s : Shared) (H : Hp) (args : Args) (us : List Value) (xs : List V) (Q : VK) (E : XK), A.guards = some [] → Room k A → Env0 P w K mg base A outer s H → BindsTo s fd args (ps.zip us) → Vals xs us → S xs H Q E →
    codeAny (model P w) A (.call (.ref f) args) (CR (L2.CX P w) outer P w H s Q E) s
theorem FnG.imp {P : Program} {w : World} {K : PySem.W.Frag} {mg : Str → Option Value} {base : Heap} {k : Nat} {f : Addr} {fd : FuncData} {ps : List Str} {S S' : Sp} (F : FnG P w K mg base k f fd ps S) (h : ∀ xs H Q E, S' xs H Q E → S xs H Q E) : FnG P w K mg base k f fd ps S' :=
  ⟨fun xs H Q E z => F.len xs H Q E (h xs H Q E z), fun A outer s H args us xs Q E g r e b v z => F.go A outer s H args us xs Q E g r e b v (h xs H Q E z)⟩
section
variable {P : Program} {w : World} {base : Heap} {N : List Str} {sc : Scope} {j : Nat}
variable {X : Cx} {M : Mx} {W : WX} {a : Expr} {es : List Expr} {ma : DM RV} {ms : DM (List AV)} {x : Str} {p pos : Pos}
end
end DL

/- part -/
set_option Elab.async false
set_option linter.all false
set_option maxRecDepth 100000
set_option maxHeartbeats 4000000
namespace DL
open PySem PySem.Spec PyProof.Rows L2
end DL

/- part -/
set_option Elab.async false
set_option linter.all false
set_option maxRecDepth 100000
set_option maxHeartbeats 4000000
namespace DL
open PySem PySem.Spec PyProof.Rows L2
section
variable {P : Program} {w : World} {base : Heap} {N : List Str} {sc : Scope} {j : Nat} {M : Mx} {W : WX} {X : Cx} {a b : Expr} {ma mb : DM RV} {pos : Pos}
end
end DL

/- part -/
set_option Elab.async false
set_option linter.all false
set_option maxRecDepth 100000
set_option maxHeartbeats 4000000
namespace DL
open PySem PySem.Spec PyProof.Rows L2
section
variable {P : Program} {w : World} {α : Type} {M : Mx} {W : WX} {X Y : Cx} {F H F' H' F1 H1 H0 : Hp} {σ σ1 σ' : L2.St} {ρ ρ1 ρ' : SE} {q : Addr} {o : HO}
variable {tg iter elt e tg1 iter1 : Expr} {ifs ifs1 : List Expr} {vs vs1 sl sl1 : List Nat} {gm gm1 : D → SE → R Unit} {mt mt1 : DM Bool} {me : DM RV} {mi mi1 : DM (List D)}
end
section
variable {M : Mx} {X : Cx} {pins : List (Addr × Obj)} {σ : L2.St} {H : Hp} {s : Shared} {a : Addr} {us ws : List V} {ks vs : List D} {y v z : V} {k : D} {u r : Value} {A : Around} {E : Value → Shared → Prop}
variable {P : Program} {w : World} {base : Heap} {N : List Str} {sc csc : Scope} {j : Nat}
variable {M : Mx} {W : WX} {X Y : Cx} {F H F' H' F1 H1 H0 : Hp} {σ σ1 σ' : L2.St} {ρ ρ1 ρ' : SE} {q : Addr} {o : HO}
variable {tg iter elt e kx vx : Expr} {ifs : List Expr} {own : List (Str × Nat)} {vs sl : List Nat} {gm : D → SE → R Unit} {mt : DM Bool} {me mk mv : DM RV} {mi : DM (List D)} {pos p : Pos}
end
end DL

/- part -/
set_option Elab.async false
set_option linter.all false
set_option maxRecDepth 100000
set_option maxHeartbeats 4000000
namespace DL
open PySem PySem.Spec PyProof.Rows L2
section
variable {X : Cx} {M : Mx} {W : WX} {a b c d : Expr} {ma mb mc md : DM RV} {ta tb tc td : TE} {pos : Pos}
end
section
variable {ρ : SE}
end
@[simp] theorem callR_6 {mf : SE → R RV} {ρ : SE} {d1 d2 d3 d4 d5 d6 : D} : callR mf [.d d1, .d d2, .d d3, .d d4, .d d5, .d d6] ρ = retR (mf [.im d1, .im d2, .im d3, .im d4, .im d5, .im d6]) ρ := callR_no rfl
end DL

/- part -/
set_option Elab.async false
set_option linter.all false
set_option maxRecDepth 100000
set_option maxHeartbeats 4000000
namespace DL
open PySem PySem.Spec PyProof.Rows L2
section
variable {X : Cx} {M : Mx} {W : WX} {sts : List Stmt}
end
end DL

/- part -/
set_option Elab.async false
set_option linter.all false
set_option maxRecDepth 100000
set_option maxHeartbeats 1000000
namespace DL
open PySem PySem.Spec PyProof.Rows L2
end DL

/- part -/
set_option Elab.async false
set_option linter.all false
set_option maxRecDepth 100000
set_option maxHeartbeats 1000000
namespace DL
open PySem PySem.Spec PyProof.Rows L2
section
variable {P : Program} {w : World} {base : Heap} {N : List Str} {sc : Scope} {j : Nat} {M : Mx} {W : WX} {X : Cx} {m : DM RV}
end
end DL

/- part -/
set_option Elab.async false
set_option linter.all false
set_option maxRecDepth 100000
set_option maxHeartbeats 2000000
namespace DL
open PySem PySem.Spec PyProof.Rows L2
section
variable {X : Cx} {k : Nat} {C f : Addr} {fd : FuncData} {ps : List Str} {sp : Sp}
end
section
variable {P : Program} {w : World} {base : Heap} {N : List Str} {sc : Scope} {j : Nat}
variable {M : Mx} {W : WX} {X : Cx} {F H F' H' F1 H1 F2 H2 : Hp} {σ : L2.St} {ρ ρ1 ρ2 : SE}
variable {a b : Expr} {ma mb : DM RV} {pos : Pos} {cl : Str} {mm : SE → R RV} {k : Nat}
end
end DL

/- part -/
set_option Elab.async false
set_option linter.all false
set_option maxRecDepth 100000
set_option maxHeartbeats 2000000
namespace DL
open PySem PySem.Spec PyProof.Rows L2 PySem.Froz
section
variable {X : Cx} {a : Expr} {p p2 q pos : Pos}
end
section
variable {P : Program} {w : World} {base : Heap} {N : List Str} {sc : Scope} {j : Nat} {M : Mx} {W : WX} {X : Cx} {a : Expr} {ma : DM RV} {p p2 q pos : Pos}
end
end DL

/- part -/
set_option Elab.async false
set_option linter.all false
set_option maxRecDepth 100000
set_option maxHeartbeats 1000000
namespace DL
open PySem PySem.Spec PyProof.Rows L2
section
variable {X : Cx} {x1 x2 : Str} {c1 c2 : Value} {body : List Stmt} {p1 p2 tp pos pos' pr : Pos} {kk : Nat} {tb : L2.WX → TS} {re : Expr} {rv : V}
end
section
variable {P : Program} {w : World} {base : Heap} {N : List Str} {sc : Scope} {j : Nat}
variable {M : Mx} {W : WX} {X : Cx} {x1 x2 : Str} {body : List Stmt} {mb : DM Fl} {p1 p2 tp pos pos' pr : Pos} {kk : Nat} {re : Expr} {rv : V} {d : D}
theorem CxF.tr (C : CxF P w base M N sc j X W) {pn : List (Addr × Obj)} {xe : Value → Shared → Prop} {W' : WX} (tk : Takes (X.tr pn xe) W') (hp : PassesOwn (model X.prog X.w) X.A X.env xe) : CxF P w base M N sc j (X.tr pn xe) W' :=
  ⟨⟨C.hP, C.hw, C.hB, C.hK, C.hM, C.hN, C.hs, C.hf, C.nd, C.cm, C.hr, tk⟩, C.fn, hp⟩
end
section
variable {x1 x2 : Str} {mb : DM Fl} {d : D} {ρ : SE} {Q : Fl → SE → Prop} {E : Exc → SE → Prop}
end
end DL

/- part -/
set_option Elab.async false
set_option linter.all false
set_option maxRecDepth 100000
set_option maxHeartbeats 1000000
namespace DL
open PySem PySem.Spec PyProof.Rows L2
def gIntN : List D → Option RV
  | [.int i] => some (.im (.int i))
  | [.bl b] => some (.im (.int (if b then 1 else 0)))
  | _ => none
section
variable {P : Program} {w : World} {base : Heap} {N : List Str} {sc : Scope} {j : Nat}
variable {M : Mx} {W : WX} {X : Cx} {a : Expr} {mv : DM (List D)} {p pos : Pos}
theorem cb_intN : CbOk M (fun xs H Q => (∃ i, xs = [.int i] ∧ Q (.int i) H) ∨ ∃ k, xs = [.bl k] ∧ Q (.int (if k then 1 else 0)) H) gIntN := by
  intro F H vs ds rv Q sub hv hg k
  unfold gIntN at hg
  split at hg
  · cases hg
    obtain ⟨v, rfl, h⟩ := vws1 hv
    rw [vw_int h]
    exact .inl ⟨_, rfl, k _ _ _ (Alc.refl sub) RvNew.int⟩
  · cases hg
    obtain ⟨v, rfl, h⟩ := vws1 hv
    cases h
    exact .inr ⟨_, rfl, k _ _ _ (Alc.refl sub) RvNew.int⟩
  · cases hg
theorem de_intNF (C : CxD P w base M N sc j X W) (h : GlOk sc "int") (hm : M.mg "int" = none) (ha : DV X M W [a] mv) (he : starEach [a] X.env = (false, eval a X.env) :: starEach [] X.env := by rfl) : DE X M W (.Call (.Name "int" p) [a] [] pos) (dCb gIntN mv) := de_ctyF C call_int1 cb_intN (by decide +kernel) h hm ha he
@[simp] theorem gIntN_bl {b : Bool} : gIntN [.bl b] = some (.im (.int (if b then 1 else 0))) := rfl
end
end DL

/- part -/
set_option Elab.async false
set_option linter.all false
set_option maxRecDepth 100000
set_option maxHeartbeats 1000000
namespace DL
open PySem PySem.Spec PyProof.Rows L2
section
variable {P : Program} {w : World} {base : Heap} {N : List Str} {sc : Scope} {j : Nat}
variable {M : Mx} {W : WX} {X : Cx} {F H F' H' F1 H1 F2 H2 H0 : Hp} {σ σ1 : L2.St} {ρ ρ1 ρ2 : SE}
variable {a b c e o : Expr} {ma mb m mo : DM RV} {pos p p' q1 q2 apos cpos bpos : Pos} {x f : Str}
end
end DL

/- part -/
set_option Elab.async false
set_option linter.all false
set_option maxRecDepth 100000
set_option maxHeartbeats 1000000
namespace DL
open PySem PySem.Spec PyProof.Rows L2
section
variable {M : Mx} {X : Cx} {sl : List Nat} {tgs : List Expr} {gms : List D → SE → R Unit} {pos : Pos} {ρ : SE}
end
end DL

/- part -/
set_option Elab.async false
set_option linter.all false
set_option maxRecDepth 100000
set_option maxHeartbeats 4000000
namespace DL
open PySem PySem.Spec PyProof.Rows L2
section
variable {M : Mx} {W : WX} {X : Cx} {F H F' H' F1 H1 F2 H2 H0 : Hp} {σ σ1 : L2.St} {ρ ρ1 ρ2 : SE}
def TmpOk (M : Mx) (H0 F H : Hp) (σ : L2.St) (ρ : SE) (a : Addr) (oc : OC) : Prop := ∃ o, H a = some o ∧ F a = none ∧ OcRep M F o oc ∧ ¬ Own σ ρ a ∧ Fre H0 a
def PostAT (M : Mx) (W : WX) (σ : L2.St) (ρ : SE) (F H : Hp) (r : R (List D × OC)) (Q : List V → Hp → Prop) : Prop := match r with
  | .bad => False
  | .ok as ρ' => ∀ F' H' vs a, Stp F H σ ρ F' H' σ ρ' → Sim M F' H' σ ρ' → Reps M F' vs as.1 → TmpOk M H F' H' σ ρ' a as.2 → Q (vs ++ [.ref a]) H'
  | .ex e ρ' => ∀ F' H' cls d, Stp F H σ ρ F' H' σ ρ' → Sim M F' H' σ ρ' → ExcOk M F' H' cls d e → W cls d σ H'
variable {a e : Expr} {es : List Expr} {ma m : DM RV} {ms : DM (List D × OC)}
theorem PostAT.from {r : R (List D × OC)} {Q : List V → Hp → Prop} (st : Stp F H σ ρ F1 H1 σ ρ1) (h : PostAT M W σ ρ F H r Q) : PostAT M W σ ρ1 F1 H1 r Q := by
  cases r with
  | bad => exact h
  | ok as ρ2 => exact fun F2 H2 vs a st2 sm ok tm => h F2 H2 vs a (st.trans st2) sm ok (by
      obtain ⟨o, h1, h2, h3, h4, h5⟩ := tm
      exact ⟨o, h1, h2, h3, h4, st.dom _ h5⟩)
  | ex e ρ2 => exact fun F2 H2 cls d st2 sm ok => h F2 H2 cls d (st.trans st2) sm ok
variable {v : V} {b : Addr} {oc : OC}
end
end DL

/- part -/
set_option Elab.async false
set_option linter.all false
set_option maxRecDepth 100000
set_option maxHeartbeats 4000000
namespace DL
open PySem PySem.Spec PyProof.Rows L2
section
variable {P : Program} {w : World} {base : Heap} {N : List Str} {sc : Scope} {j : Nat}
variable {M : Mx} {W : WX} {X : Cx} {a : Expr} {es : List Expr} {x : Str} {p pos : Pos} {ms : DM (List D × OC)}
end
section
variable {m : SE → R RV} {ρ ρ1 : SE} {r : R RV} {Q : RV → SE → Prop} {E : Exc → SE → Prop} {d e f g : D} {i k n : Nat} {ma mt : DM RV} {ms : DM (List D × OC)} {oc : OC} {io : Bool}
@[simp] theorem callR_dio3 : callR m [.d d, .d e, .d f, .io i] ρ = retIo (m [.im d, .im e, .im f, ioSV ρ[i]?]) 3 i ρ := by
  rw [← argSV_eq]
  exact callR_io rfl
@[simp] theorem callR_dio2 : callR m [.d d, .d e, .io i] ρ = retIo (m [.im d, .im e, ioSV ρ[i]?]) 2 i ρ := by
  rw [← argSV_eq]
  exact callR_io rfl
end
end DL

/- part -/
set_option Elab.async false
set_option linter.all false
set_option maxRecDepth 100000
set_option maxHeartbeats 4000000
namespace DL
open PySem PySem.Spec PyProof.Rows L2
section
variable {M : Mx} {W : WX} {X : Cx} {e a fe : Expr} {es : List Expr} {ms : DM (List AV)} {mf : DM RV} {x y : Str} {p pos : Pos} {i k n : Nat}
end
section
variable {P : Program} {w : World} {base : Heap} {N : List Str} {sc : Scope} {j : Nat} {M : Mx} {W : WX} {X : Cx} {a fe : Expr} {es : List Expr} {ms : DM (List AV)} {mf : DM RV} {x y : Str} {p pos : Pos}
end
section
variable {mf : DM RV} {ρ ρ1 : SE} {n : Nat} {tab : List (Str × (SE → R RV))} {ms : DM (List AV)} {Q : RV → SE → Prop} {E : Exc → SE → Prop} {z : Str} {m : SE → R RV}
end
end DL

/- part -/
set_option Elab.async false
set_option linter.all false
set_option maxRecDepth 100000
set_option maxHeartbeats 4000000
namespace DL
open PySem PySem.Spec PyProof.Rows L2
section
variable {M : Mx} {X : Cx}
variable {P : Program} {w : World} {base : Heap} {N : List Str} {sc : Scope} {j : Nat} {W : WX} {a : Expr} {mv : DM (List D)} {p pos : Pos}
end
end DL

/- part -/
set_option Elab.async false
set_option linter.all false
set_option maxRecDepth 100000
set_option maxHeartbeats 4000000
namespace DL
open PySem PySem.Spec PyProof.Rows L2
end DL

/- part -/
set_option Elab.async false
set_option linter.all false
set_option maxRecDepth 100000
set_option maxHeartbeats 4000000
namespace DL
open PySem PySem.Spec PyProof.Rows L2
def keyV (e : DictEntry) : Option (Str × Int) := match e.key, e.val with
  | .str x _, .int i _ => some (x, i)
  | _, _ => none
theorem find_vals : ∀ {l : List DictEntry} {kvs : List (Str × Int)}, l.map keyV = kvs.map some → ∀ z : Str, (l.any (·.refKey) = false) ∧ (match kvs.lookup z with
    | some i => ∃ e t, l.find? (fun e => e.key.isStr z) = some e ∧ e.val = .int i t
    | none => l.find? (fun e => e.key.isStr z) = none)
  | [], [], _, z => ⟨rfl, rfl⟩
  | e :: r, (k, i) :: kvs, h, z => by
    have h1 : keyV e :: r.map keyV = some (k, i) :: kvs.map some := h
    injection h1 with h2 h3
    obtain ⟨i1, i2⟩ := find_vals h3 z
    obtain ⟨eh, ek, ev⟩ := e
    unfold keyV at h2
    split at h2
    · rename_i x t j u q1 q2
      have q1 : ek = .str x t := q1
      have q2 : ev = .int j u := q2
      subst q1 q2
      cases Option.some.inj h2
      refine ⟨?_, ?_⟩
      · rw [List.any_cons, i1]
        rfl
      · rw [List.find?_cons, List.lookup_cons]
        have qq : (Value.str k t).isStr z = (k == z) := rfl
        rw [show (DictEntry.key ⟨eh, .str k t, .int i u⟩).isStr z = (k == z) from rfl, show (z == k) = (k == z) from Bool.beq_comm]
        cases k == z with
        | true => exact ⟨_, _, rfl, rfl⟩
        | false => exact i2
    · cases h2
structure DctV (M : Mx) (w : World) (x : Str) (kvs : List (Str × Int)) : Prop where
  ex : ∃ d es n, M.mg x = some (.ref d) ∧ KDict M.K w d es n ∧ ∀ z, ∃ r, PySem.W.nsIn M.K d z = some r ∧ (match kvs.lookup z with
    | some i => ∃ t, r = some (.int i t)
    | none => r = none)
theorem dctV_of {M : Mx} {w : World} {x : Str} {kvs : List (Str × Int)} {d : Addr} {es : Array DictEntry} {n : Nat} (g : M.mg x = some (.ref d)) (l : M.K.lookup d = some ⟨.type "dict", none, .dict es n, #[]⟩) (k : PySem.W.KeysLit w.params es.toList) (s : (d == sysModules) = false) (t : es.toList.map keyV = kvs.map some) : DctV M w x kvs := by
  refine ⟨d, es, n, g, ⟨l, k, s⟩, fun z => ?_⟩
  obtain ⟨h1, h2⟩ := find_vals t z
  unfold PySem.W.nsIn
  rw [l]
  show ∃ r, (match es.toList.find? (·.key.isStr z) with
      | some e => some (some e.val)
      | none => if es.toList.any (·.refKey) then none else some none) = some r ∧ _
  cases e : kvs.lookup z with
  | some i =>
    rw [e] at h2
    obtain ⟨en, t, e1, e2⟩ := h2
    rw [e1]
    exact ⟨_, rfl, t, by rw [e2]⟩
  | none =>
    rw [e] at h2
    have h2 : es.toList.find? (fun e => e.key.isStr z) = none := h2
    rw [h2]
    refine ⟨none, ?_, rfl⟩
    show (if es.toList.any (·.refKey) = true then none else some none) = _
    rw [if_neg (by rw [h1]; exact Bool.false_ne_true)]
section
variable {M : Mx} {W : WX} {X : Cx} {P : Program} {w : World} {base : Heap} {N : List Str} {sc : Scope} {j : Nat}
variable {a b e : Expr} {es : List Expr} {ms : DM (List AV)} {p apos cpos : Pos} {x : Str}
def tKG (kvs : List (Str × Int)) (t : TA) : TE := fun σ H Q => t σ H fun xs H2 => ∃ z i, xs = [.str z, .int i] ∧ Q (.int ((kvs.lookup z).getD i)) H2
theorem pe_kget {kvs : List (Str × Int)} {t : TA} {d : Addr} {ces : Array DictEntry} {n : Nat} (hg : Gl X x) (hm : X.mg x = some (.ref d)) (nd : (x == ("__debug__" : Str)) = false) (D : KDict X.K X.w d ces n)
    (ck : ∀ z, ∃ r, PySem.W.nsIn X.K d z = some r ∧ (match kvs.lookup z with
    | some i => ∃ t, r = some (.int i t)
    | none => r = none)) (ha : PA X (e :: es) t)
    (hbase : attributeBase (.Name x p) "get" X.env (eval (.Name x p) X.env) = eval (.Name x p) X.env := by rfl)
    (few : ((backTo cpos (starEach (e :: es) X.env)).all (fun z => !z.1) && (backToKw cpos (keywordEach [] X.env)).all (fun z => z.1.isSome)
      && decide ((e :: es).length + ([] : List Keyword).length + (if ([] : List Keyword).isEmpty then 0 else 1) < 30)) = true := by rfl)
    (line : (apos.endLine == cpos.line) = true := by rfl) (hs : starEach (e :: es) X.env = (false, eval e X.env) :: starEach es X.env := by rfl) (hplain : (backTo cpos (starEach es X.env)).any (·.1) = false := by rfl) :
    PE X (.Call (.Attribute (.Name x p) "get" apos) (e :: es) [] cpos) (tKG kvs t) :=
  ⟨fun pn s0 τ G Q J g => wpAny_Call_method_late hbase few line rfl (ld_glob J hg hm (by
    have p1 := J.kIn _ _ D.at_
    refine ⟨"dict", "dict.get", PySem.F.plainAttrs_dict, PySem.F.slot_dict_get, PySem.F.type_dict_get, ⟨_, p1, rfl⟩, fun q hq => ?_, ?_⟩
    · cases hq
      exact ⟨_, p1, rfl⟩
    have args := ha.run cpos pn _ τ G _ J g
    rw [hs] at args ⊢
    refine Calls.callWith_builtin (by show (false || (backTo cpos (starEach es X.env)).any (·.1)) = false; rw [hplain] <;> rfl) (Calls.evalArgs_plain ?_)
    refine thn args fun vals s2 ⟨zs, G2, J2, rs, z, i, ez, g2⟩ => ?_
    subst ez
    cases rs with
    | cons r1 rs =>
      cases rs with
      | cons r2 rs =>
        cases rs
        obtain ⟨t1, rfl⟩ := r1
        obtain ⟨t2, rfl⟩ := r2
        have mo := PySem.W.mapOf_K (prog := X.prog) (w := X.w) J2.kIn D.at_ D.lit
        obtain ⟨r, e1, e2⟩ := ck z
        refine call_meetsIn PySem.F.slot_dict_get mo.typeIs PySem.F.entry_dict_get (PySem.F.args_dict_get_3 _ _ _) (meets_dict_get_default (PySem.strKind X.prog X.w) d (PySem.strKind_is X.prog X.w z t1) D.low _) ⟨_, mo, ?_⟩
        rw [PySem.W.find_K D.at_ e1]
        refine ⟨_, G2, J2.tok _, ?_, g2⟩
        cases e : kvs.lookup z with
        | some k =>
          rw [e] at e2
          obtain ⟨t, rfl⟩ := e2
          exact ⟨_, rfl⟩
        | none =>
          rw [e] at e2
          have e2 : r = none := e2
          subst e2
          exact ⟨_, rfl⟩) nd)⟩
def kgD (kvs : List (Str × Int)) (as : Option (List D)) (ρ : SE) : R RV := match as with
  | some [.str z, .int i] => .ok (.im (.int ((kvs.lookup z).getD i))) ρ
  | _ => .bad
def dKGet (kvs : List (Str × Int)) (ms : DM (List AV)) : DM RV := fun ρ => (ms ρ).bind fun as ρ2 => kgD kvs (avD as) ρ2
theorem de_kget {kvs : List (Str × Int)} (C : CxD P w base M N sc j X W) (h : GlOk sc x) (c : DctV M w x kvs) (ha : DA X M W (e :: es) ms)
    (hbase : attributeBase (.Name x p) "get" X.env (eval (.Name x p) X.env) = eval (.Name x p) X.env := by rfl)
    (few : ((backTo cpos (starEach (e :: es) X.env)).all (fun z => !z.1) && (backToKw cpos (keywordEach [] X.env)).all (fun z => z.1.isSome)
      && decide ((e :: es).length + ([] : List Keyword).length + (if ([] : List Keyword).isEmpty then 0 else 1) < 30)) = true := by rfl)
    (line : (apos.endLine == cpos.line) = true := by rfl) (hs : starEach (e :: es) X.env = (false, eval e X.env) :: starEach es X.env := by rfl) (hplain : (backTo cpos (starEach es X.env)).any (·.1) = false := by rfl) :
    DE X M W (.Call (.Attribute (.Name x p) "get" apos) (e :: es) [] cpos) (dKGet kvs ms) := by
  obtain ⟨t, pa, qa⟩ := ha
  obtain ⟨cd, ces, cn, cg, ckd, ckk⟩ := c.ex
  have g : X.mg x = some (.ref cd) := by rw [← C.hM]; exact cg
  have kd : KDict X.K X.w cd ces cn := by
    rw [← C.hK, C.hw]
    exact ckd
  refine ⟨_, pe_kget (C.glo h) g h.nd kd (by rw [← C.hK]; exact ckk) pa hbase few line hs hplain, fun σ H F ρ Q sm h => ?_⟩
  refine qa σ H F ρ _ sm (PostA.goE h fun as ρ2 F2 H2 us _ st2 sm2 ok2 h2 => ?_)
  unfold kgD at h2
  split at h2
  · rename_i z i e2
    have rr := avD_ok ok2 e2
    cases rr with
    | cons r1 rr =>
      cases rr with
      | cons r2 rr =>
        cases rr
        have q1 := vw_str (Vw.of sm2.sub r1)
        have q2 := vw_int (Vw.of sm2.sub r2)
        subst q1 q2
        exact ⟨z, i, rfl, h2 F2 H2 _ st2 sm2 (.int _)⟩
  · exact h2.elim
end
end DL

/- part -/
set_option Elab.async false
set_option linter.all false
set_option maxRecDepth 100000
set_option maxHeartbeats 4000000
namespace PySem
namespace OwnX
open PySem.W PySem.Calls PyProof.Rows PySem.HandSPX
section
open Builtin Builtin.ObjectAttr
variable {prog : Program} {w : World} {A : Around}
variable {R : Result → Shared → Prop} {hp : Heap} {K : W.Frag}
variable {g : Array GenState} {d : Drawn} {t : Nat} {os : OsState}
variable {x C dx : Addr} {B : String} {bmB : List Value} {name : Str}
variable {tk : Tok} {v : Value} {fv : Array Value} {cd : ClassData}
end
end OwnX
end PySem
namespace DL
open PySem PySem.Spec PyProof.Rows L2
section
variable {X : Cx} {pins : List (Addr × Obj)} {σ : L2.St} {H : Hp} {s : Shared} {a C dx : Addr} {f : Str} {y : V} {u : Value}
variable {fs : List (Str × V)} {Q : Unit → Shared → Prop} {E : Value → Shared → Prop} {A : Around}
end
end DL

/- part -/
set_option Elab.async false
set_option linter.all false
set_option maxRecDepth 100000
set_option maxHeartbeats 1000000
namespace DL
open PySem PySem.Spec PyProof.Rows L2
section
variable {P : Program} {w : World} {base : Heap} {M : Mx} {K : PySem.W.Frag} {mg : Str → Option Value}
end
section
variable {P : Program} {w : World} {base : Heap} {N : List Str} {sc : Scope} {j : Nat}
variable {M : Mx} {W : WX} {X : Cx} {F H F' H' F1 H1 F2 H2 H0 : Hp} {σ σ1 : L2.St} {ρ ρ1 ρ2 : SE}
variable {a b c e : Expr} {ma mb m : DM RV} {es : List Expr} {pos p p' : Pos} {x : Str}
end
end DL

/- part -/
set_option Elab.async false
set_option linter.all false
set_option maxRecDepth 100000
set_option maxHeartbeats 4000000
namespace DL
open PySem PySem.Spec PyProof.Rows L2
section
variable {P : Program} {w : World} {base : Heap} {N : List Str} {sc : Scope} {j : Nat} {M : Mx} {W : WX} {X : Cx} {a : Expr} {x : Str} {ma : DM RV} {pos p : Pos}
theorem dt_notInK {ks : List Str} (C : CxD P w base M N sc j X W) (h : GlOk sc x) (c : DctK M w x ks) (ha : DE X M W a ma) (hm : behindInMarks .NotIn (.Name x p) = false := by rfl) : DT X M W (.Compare a [.NotIn] [.Name x p] pos) (fun ρ => (dOp1 (inKD true ks) ma ρ).bind asB) := by
  obtain ⟨ta, pa, qa⟩ := ha
  obtain ⟨cd, ces, cn, cg, ckd, ckk⟩ := c.ex
  have g : X.mg x = some (.ref cd) := by rw [← C.hM]; exact cg
  have kd : KDict X.K X.w cd ces cn := by
    rw [← C.hK, C.hw]
    exact ckd
  refine dt_mk (fun σ H F ρ Q sm h => ?_) (pt_cmpR (op_notIn_kd kd) pa (pe_glob (v := .ref cd) (C.glo h) g rfl h.nd) hm)
  refine qa σ H F ρ _ sm (Post.go h fun v ρ1 F1 H1 u _ st1 sm1 ok1 h1 => ?_)
  obtain ⟨rv, e, k⟩ := Post.fin' h1 st1 sm1
  obtain ⟨d, l1, hg⟩ := bind_some1 e
  have vw := ok1.view0 sm1 l1
  unfold inKD at hg
  split at hg
  · rename_i s
    cases hg
    obtain ⟨r, e1, e2⟩ := ckk s
    rw [vw_str vw]
    refine ⟨s, r, rfl, rfl, by rw [← C.hK]; exact e1, k _ _ _ (Alc.refl sm1.sub) ?_⟩
    rw [← e2, Bool.true_bne]
    exact RvNew.bl
  · cases hg
end
end DL

/- part -/
set_option Elab.async false
set_option linter.all false
set_option maxRecDepth 100000
set_option maxHeartbeats 4000000
namespace DL
open PySem PySem.Spec PyProof.Rows L2
section
variable {P : Program} {w : World} {base : Heap} {N : List Str} {sc : Scope} {j : Nat} {M : Mx} {W : WX} {X : Cx} {F H : Hp} {a : Expr} {mv : DM (List D)} {pos p : Pos}
end
end DL

/- part -/
set_option Elab.async false
set_option linter.all false
set_option maxRecDepth 100000
set_option maxHeartbeats 4000000
namespace Kx
noncomputable section
open PySem PySem.Spec PyProof.Rows L2 DL
def topS (i : Nat) : Stmt := PySem.Challenge.pw_earlywrite_k16_invalid_texts_of_expressi.main.body.getD i (.Pass ⟨0, 0, 0, 0⟩)
abbrev c_MIN_NAME : D := .int 2
abbrev c_MAX_NAME : D := .int 8
abbrev c_LETTERS : D := .str "abcdefghijklmnopqrstuvwxyz"
abbrev c_VARIABLE : D := .str "x"
abbrev c_DECIMALS : D := .str "0123456789"
abbrev c_MAX_FIGURES : D := .int 6
abbrev c_MAX_DEPTH : D := .int 12
abbrev ks_WORDS : List Str := ["max", "min", "abs"]
abbrev kv_WORDS : List (Str × Int) := [("max", 2), ("min", 2), ("abs", 1)]
def okE (c : Str) : Bool := (decide (c = "InvalidText") || false)
structure Tx (M : Mx) (w : World) where
  hw : M.w = w
  z_len : M.mg "len" = none
  z_list : M.mg "list" = none
  z_str : M.mg "str" = none
  z_abs : M.mg "abs" = none
  z_range : M.mg "range" = none
  z_all : M.mg "all" = none
  z_int : M.mg "int" = none
  z_isinstance : M.mg "isinstance" = none
  z_tuple : M.mg "tuple" = none
  z_zip : M.mg "zip" = none
  z_bool : M.mg "bool" = none
  k_MIN_NAME : KCon M "MIN_NAME" c_MIN_NAME
  k_MAX_NAME : KCon M "MAX_NAME" c_MAX_NAME
  k_LETTERS : KCon M "LETTERS" c_LETTERS
  k_VARIABLE : KCon M "VARIABLE" c_VARIABLE
  k_DECIMALS : KCon M "DECIMALS" c_DECIMALS
  k_MAX_FIGURES : KCon M "MAX_FIGURES" c_MAX_FIGURES
  k_MAX_DEPTH : KCon M "MAX_DEPTH" c_MAX_DEPTH
  d_WORDS : DctK M w "WORDS" ks_WORDS
  v_WORDS : DctV M w "WORDS" kv_WORDS
  x_InvalidText : ExcAt M "InvalidText" ["self", "position"] fun ws => [("position", ws.getD 0 .non), ("tag", .str "InvalidText")]
abbrev s__law_begin : Stmt := topS 27
abbrev n__law_begin : List Str := ["_law_script", "_law_seed", "_law_cell"]
theorem sc__law_begin : FnScope n__law_begin ["_law_script"] (defScope s__law_begin) := ⟨rfl, rfl, rfl, by decide +kernel, rfl, by decide +kernel, by decide +kernel⟩
structure V__law_begin : Prop where
  _law_script : NameOk (defScope s__law_begin) "_law_script"
  _law_seed : NameOk (defScope s__law_begin) "_law_seed"
  _law_cell : NameOk (defScope s__law_begin) "_law_cell"
theorem v__law_begin : V__law_begin := ⟨⟨by unfold Vis; decide +kernel, by decide +kernel, by decide +kernel⟩, ⟨by unfold Vis; decide +kernel, by decide +kernel, by decide +kernel⟩, ⟨by unfold Vis; decide +kernel, by decide +kernel, by decide +kernel⟩⟩
structure L__law_begin : Prop where
  _law_seed : L2.Loc (defScope s__law_begin) "_law_seed"
  _law_cell : L2.Loc (defScope s__law_begin) "_law_cell"
theorem l__law_begin : L__law_begin := ⟨by unfold L2.Loc; decide +kernel, by unfold L2.Loc; decide +kernel⟩
structure G__law_begin : Prop where
  len : GlOk (defScope s__law_begin) "len"
  list : GlOk (defScope s__law_begin) "list"
theorem g__law_begin : G__law_begin := ⟨⟨by decide +kernel, by decide +kernel, by decide +kernel⟩, ⟨by decide +kernel, by decide +kernel, by decide +kernel⟩⟩
def b__law_begin : DM Fl := sSeq (sSet 1 (dOp2 addD (dC (.int 9491)) (dCb gLen (vCons (dSl (dVar 0) (oNone) (oSome (dC (.int 63)))) (vNil))))) (sSeq (sFor (iSeq (dSl (dVar 0) (oNone) (oSome (dC (.int 63))))) (tgName 2) (sSet 1 (dOp2 modD (dOp2 addD (dOp2 addD (dOp2 mulD (dVar 1) (dC (.int 40009))) (dOp2 modD (dVar 2) (dC (.int 2147483549)))) (dC (.int 31))) (dC (.int 2147483549))))) (sRet (dLst (aCons (dCb gList (vCons (dSl (dVar 0) (oNone) (oSome (dC (.int 63)))) (vNil))) (aCons (dC (.int 0)) (aCons (dC (.int 0)) (aCons (dVar 1) (aNil))))))))
def m__law_begin : SE → R RV := mFn n__law_begin.length b__law_begin
theorem d__law_begin {P : Program} {w : World} {base : Heap} {M : Mx} (T : Tx M w)  {X : Cx} {W : DL.WX} (C : CxF P w base M n__law_begin (defScope s__law_begin) 0 X W) : DSs X M W (defBody s__law_begin) b__law_begin :=
  (dss_cons (ds_v C.toCxD 1 (C.st l__law_begin._law_seed) (de_add de_int (de_lenF C.toCxD g__law_begin.len T.z_len (dv_cons (de_sl (de_v C.toCxD 0 v__law_begin._law_script) do_none (do_some de_int) C.toCxD.hK) dv_nil)) C.toCxD.hK)) (dss_cons (ds_for C.ps C.cm (di_seq (de_sl (de_v C.toCxD 0 v__law_begin._law_script) do_none (do_some de_int) C.toCxD.hK) C.toCxD.hK) (dg_v C.toCxD 2 (C.st l__law_begin._law_cell)) (dss_one (ds_v C.toCxD 1 (C.st l__law_begin._law_seed) (de_mod (de_add (de_add (de_mul (de_v C.toCxD 1 v__law_begin._law_seed) de_int) (de_mod (de_v C.toCxD 2 v__law_begin._law_cell) de_int) C.toCxD.hK) de_int C.toCxD.hK) de_int)))) (dss_one (ds_ret (de_lst (da_cons (de_listF C.toCxD g__law_begin.list T.z_list (dv_cons (de_sl (de_v C.toCxD 0 v__law_begin._law_script) do_none (do_some de_int) C.toCxD.hK) dv_nil)) (da_cons de_int (da_cons de_int (da_cons (de_v C.toCxD 1 v__law_begin._law_seed) da_nil)))))))))
theorem ok__law_begin {P : Program} {w : World} {base : Heap} {M : Mx} (T : Tx M w) (Dx : DefAt M "_law_begin" s__law_begin ["_law_script"])  : FnOk P w M.K M.mg base (L2.CX P w) 1 Dx.f Dx.fd ["_law_script"] (spD M 1 m__law_begin) := by
  have h : ∀ (cdv : Value) (A : Around) (outer : List Env) (s : Shared) (H : Hp) (E : XK), Room 0 (A.deeper (envOfC "_law_begin" (defScope s__law_begin) s.heap.objs.size Dx.f cdv)) → DSs (cxOf (L2.CX P w) P w M.K M.mg base n__law_begin "_law_begin" (defScope s__law_begin) Dx.f cdv A outer s H E) M (fun cls d _ H' => E cls d H') (defBody s__law_begin) b__law_begin := fun cdv A outer s H E hr => d__law_begin T  (cxF_of sc__law_begin hr)
  exact fn_D Dx.fu sc__law_begin h
def cal__law_begin {P : Program} {w : World} {base : Heap} {M : Mx} (T : Tx M w) (Dx : DefAt M "_law_begin" s__law_begin ["_law_script"])  : Cal P w base M "_law_begin" 1 1 m__law_begin := Dx.cal (ok__law_begin (P := P) (base := base) T Dx )
abbrev s__law_draw : Stmt := topS 28
abbrev n__law_draw : List Str := ["_law_rng", "_law_many", "_law_cell", "_law_got", "_law_seed"]
theorem sc__law_draw : FnScope n__law_draw ["_law_rng", "_law_many"] (defScope s__law_draw) := ⟨rfl, rfl, rfl, by decide +kernel, rfl, by decide +kernel, by decide +kernel⟩
structure V__law_draw : Prop where
  _law_rng : NameOk (defScope s__law_draw) "_law_rng"
  _law_cell : NameOk (defScope s__law_draw) "_law_cell"
  _law_many : NameOk (defScope s__law_draw) "_law_many"
  _law_got : NameOk (defScope s__law_draw) "_law_got"
  _law_seed : NameOk (defScope s__law_draw) "_law_seed"
theorem v__law_draw : V__law_draw := ⟨⟨by unfold Vis; decide +kernel, by decide +kernel, by decide +kernel⟩, ⟨by unfold Vis; decide +kernel, by decide +kernel, by decide +kernel⟩, ⟨by unfold Vis; decide +kernel, by decide +kernel, by decide +kernel⟩, ⟨by unfold Vis; decide +kernel, by decide +kernel, by decide +kernel⟩, ⟨by unfold Vis; decide +kernel, by decide +kernel, by decide +kernel⟩⟩
structure L__law_draw : Prop where
  _law_cell : L2.Loc (defScope s__law_draw) "_law_cell"
  _law_got : L2.Loc (defScope s__law_draw) "_law_got"
  _law_seed : L2.Loc (defScope s__law_draw) "_law_seed"
theorem l__law_draw : L__law_draw := ⟨by unfold L2.Loc; decide +kernel, by unfold L2.Loc; decide +kernel, by unfold L2.Loc; decide +kernel⟩
structure G__law_draw : Prop where
  len : GlOk (defScope s__law_draw) "len"
theorem g__law_draw : G__law_draw := ⟨⟨by decide +kernel, by decide +kernel, by decide +kernel⟩⟩
def b__law_draw : DM Fl := sSeq (sIf (dAndT (fun ρ => (dOp2 eqD (dOp2 ixD (dVar 0) (dC (.int 2))) (dC (.int 0)) ρ).bind asB) (fun ρ => (dOp2 ltD (dOp2 ixD (dVar 0) (dC (.int 1))) (dCb gLen (vCons (dOp2 ixD (dVar 0) (dC (.int 0))) (vNil))) ρ).bind asB)) (sSeq (sSet 2 (dOp2 ixD (dOp2 ixD (dVar 0) (dC (.int 0))) (dOp2 ixD (dVar 0) (dC (.int 1))))) (sSeq (sSub 0 (dC (.int 1)) (dOp2 addD (dOp2 ixD (dVar 0) (dC (.int 1))) (dC (.int 1)))) (sIf (fun ρ => (dOp2 geD (dVar 2) (dOp2 powD (dC (.int 10)) (dC (.int 18))) ρ).bind asB) (sSub 0 (dC (.int 2)) (dVar 2)) (sSub 0 (dC (.int 3)) (dOp2 modD (dOp2 addD (dOp2 addD (dOp2 mulD (dOp2 ixD (dVar 0) (dC (.int 3))) (dC (.int 44111))) (dOp2 mulD (dOp2 modD (dVar 2) (dC (.int 2147483549))) (dC (.int 70001)))) (dC (.int 13))) (dC (.int 2147483549))))))) (sPass)) (sSeq (sIf (fun ρ => (dOp2 gtD (dOp2 ixD (dVar 0) (dC (.int 2))) (dC (.int 0)) ρ).bind asB) (sSeq (sSet 3 (dOp2 modD (dOp2 ixD (dVar 0) (dC (.int 2))) (dVar 1))) (sSeq (sSub 0 (dC (.int 2)) (dOp2 fdivD (dOp2 ixD (dVar 0) (dC (.int 2))) (dVar 1))) (sRet (dVar 3)))) (sPass)) (sSeq (sSet 4 (dOp2 ixD (dVar 0) (dC (.int 3)))) (sSeq (sSub 0 (dC (.int 3)) (dOp2 modD (dOp2 addD (dOp2 addD (dOp2 mulD (dVar 4) (dOp2 addD (dOp2 modD (dVar 4) (dC (.int 65479))) (dC (.int 11)))) (dOp2 mulD (dVar 4) (dC (.int 40699)))) (dC (.int 70067))) (dC (.int 2147483549)))) (sRet (dOp2 modD (dOp2 addD (dOp2 fdivD (dOp2 ixD (dVar 0) (dC (.int 3))) (dC (.int 67))) (dOp2 mulD (dOp2 modD (dOp2 ixD (dVar 0) (dC (.int 3))) (dC (.int 7919))) (dC (.int 211)))) (dVar 1))))))
def m__law_draw : SE → R RV := mFn n__law_draw.length b__law_draw
theorem d__law_draw {P : Program} {w : World} {base : Heap} {M : Mx} (T : Tx M w)  {X : Cx} {W : DL.WX} (C : CxF P w base M n__law_draw (defScope s__law_draw) 0 X W) : DSs X M W (defBody s__law_draw) b__law_draw :=
  (dss_cons (ds_if (dt_w (dw_and (dt_eq (de_ix (de_v C.toCxD 0 v__law_draw._law_rng) de_int (fun _ _ => rfl) C.toCxD.hK) de_int C.toCxD.u64 C.toCxD.hK) (dw_and1 (dt_lt (de_ix (de_v C.toCxD 0 v__law_draw._law_rng) de_int (fun _ _ => rfl) C.toCxD.hK) (de_lenF C.toCxD g__law_draw.len T.z_len (dv_cons (de_ix (de_v C.toCxD 0 v__law_draw._law_rng) de_int (fun _ _ => rfl) C.toCxD.hK) dv_nil)))))) (dss_cons (ds_v C.toCxD 2 (C.st l__law_draw._law_cell) (de_ix (de_ix (de_v C.toCxD 0 v__law_draw._law_rng) de_int (fun _ _ => rfl) C.toCxD.hK) (de_ix (de_v C.toCxD 0 v__law_draw._law_rng) de_int (fun _ _ => rfl) C.toCxD.hK) (fun _ _ => rfl) C.toCxD.hK)) (dss_cons (ds_ixv C.toCxD 0 v__law_draw._law_rng (de_add (de_ix (de_v C.toCxD 0 v__law_draw._law_rng) de_int (fun _ _ => rfl) C.toCxD.hK) de_int C.toCxD.hK) de_int) (dss_one (ds_if (dt_ge (de_v C.toCxD 2 v__law_draw._law_cell) (de_pow de_int de_int)) (dss_one (ds_ixv C.toCxD 0 v__law_draw._law_rng (de_v C.toCxD 2 v__law_draw._law_cell) de_int)) (dss_one (ds_ixv C.toCxD 0 v__law_draw._law_rng (de_mod (de_add (de_add (de_mul (de_ix (de_v C.toCxD 0 v__law_draw._law_rng) de_int (fun _ _ => rfl) C.toCxD.hK) de_int) (de_mul (de_mod (de_v C.toCxD 2 v__law_draw._law_cell) de_int) de_int) C.toCxD.hK) de_int C.toCxD.hK) de_int) de_int)))))) dss_nil) (dss_cons (ds_if (dt_gt (de_ix (de_v C.toCxD 0 v__law_draw._law_rng) de_int (fun _ _ => rfl) C.toCxD.hK) de_int) (dss_cons (ds_v C.toCxD 3 (C.st l__law_draw._law_got) (de_mod (de_ix (de_v C.toCxD 0 v__law_draw._law_rng) de_int (fun _ _ => rfl) C.toCxD.hK) (de_v C.toCxD 1 v__law_draw._law_many))) (dss_cons (ds_ixv C.toCxD 0 v__law_draw._law_rng (de_fdiv (de_ix (de_v C.toCxD 0 v__law_draw._law_rng) de_int (fun _ _ => rfl) C.toCxD.hK) (de_v C.toCxD 1 v__law_draw._law_many)) de_int) (dss_one (ds_ret (de_v C.toCxD 3 v__law_draw._law_got))))) dss_nil) (dss_cons (ds_v C.toCxD 4 (C.st l__law_draw._law_seed) (de_ix (de_v C.toCxD 0 v__law_draw._law_rng) de_int (fun _ _ => rfl) C.toCxD.hK)) (dss_cons (ds_ixv C.toCxD 0 v__law_draw._law_rng (de_mod (de_add (de_add (de_mul (de_v C.toCxD 4 v__law_draw._law_seed) (de_add (de_mod (de_v C.toCxD 4 v__law_draw._law_seed) de_int) de_int C.toCxD.hK)) (de_mul (de_v C.toCxD 4 v__law_draw._law_seed) de_int) C.toCxD.hK) de_int C.toCxD.hK) de_int) de_int) (dss_one (ds_ret (de_mod (de_add (de_fdiv (de_ix (de_v C.toCxD 0 v__law_draw._law_rng) de_int (fun _ _ => rfl) C.toCxD.hK) de_int) (de_mul (de_mod (de_ix (de_v C.toCxD 0 v__law_draw._law_rng) de_int (fun _ _ => rfl) C.toCxD.hK) de_int) de_int) C.toCxD.hK) (de_v C.toCxD 1 v__law_draw._law_many))))))))
theorem ok__law_draw {P : Program} {w : World} {base : Heap} {M : Mx} (T : Tx M w) (Dx : DefAt M "_law_draw" s__law_draw ["_law_rng", "_law_many"])  : FnOk P w M.K M.mg base (L2.CX P w) 1 Dx.f Dx.fd ["_law_rng", "_law_many"] (spD M 2 m__law_draw) := by
  have h : ∀ (cdv : Value) (A : Around) (outer : List Env) (s : Shared) (H : Hp) (E : XK), Room 0 (A.deeper (envOfC "_law_draw" (defScope s__law_draw) s.heap.objs.size Dx.f cdv)) → DSs (cxOf (L2.CX P w) P w M.K M.mg base n__law_draw "_law_draw" (defScope s__law_draw) Dx.f cdv A outer s H E) M (fun cls d _ H' => E cls d H') (defBody s__law_draw) b__law_draw := fun cdv A outer s H E hr => d__law_draw T  (cxF_of sc__law_draw hr)
  exact fn_D Dx.fu sc__law_draw h
def cal__law_draw {P : Program} {w : World} {base : Heap} {M : Mx} (T : Tx M w) (Dx : DefAt M "_law_draw" s__law_draw ["_law_rng", "_law_many"])  : Cal P w base M "_law_draw" 1 2 m__law_draw := Dx.cal (ok__law_draw (P := P) (base := base) T Dx )
abbrev s__law_pick : Stmt := topS 29
abbrev n__law_pick : List Str := ["_law_rng", "_law_items"]
theorem sc__law_pick : FnScope n__law_pick ["_law_rng", "_law_items"] (defScope s__law_pick) := ⟨rfl, rfl, rfl, by decide +kernel, rfl, by decide +kernel, by decide +kernel⟩
structure V__law_pick : Prop where
  _law_items : NameOk (defScope s__law_pick) "_law_items"
  _law_rng : NameOk (defScope s__law_pick) "_law_rng"
theorem v__law_pick : V__law_pick := ⟨⟨by unfold Vis; decide +kernel, by decide +kernel, by decide +kernel⟩, ⟨by unfold Vis; decide +kernel, by decide +kernel, by decide +kernel⟩⟩
structure G__law_pick : Prop where
  len : GlOk (defScope s__law_pick) "len"
  _law_draw : GlOk (defScope s__law_pick) "_law_draw"
theorem g__law_pick : G__law_pick := ⟨⟨by decide +kernel, by decide +kernel, by decide +kernel⟩, ⟨by decide +kernel, by decide +kernel, by decide +kernel⟩⟩
def b__law_pick : DM Fl := sRet (dOp2 ixD (dVar 1) (dCall 2 [] m__law_draw (aIo 0 (aCons (dCb gLen (vCons (dVar 1) (vNil))) (aNil)))))
def m__law_pick : SE → R RV := mFn n__law_pick.length b__law_pick
theorem d__law_pick {P : Program} {w : World} {base : Heap} {M : Mx} (T : Tx M w) (C__law_draw : Cal P w base M "_law_draw" 1 2 m__law_draw) {X : Cx} {W : DL.WX} (C : CxF P w base M n__law_pick (defScope s__law_pick) 1 X W) : DSs X M W (defBody s__law_pick) b__law_pick :=
  (dss_one (ds_ret (de_ix (de_v C.toCxD 1 v__law_pick._law_items) (de_callC C.toCxD C__law_draw g__law_pick._law_draw (by decide) (da_v C.toCxD 0 v__law_pick._law_rng (da_cons (de_lenF C.toCxD g__law_pick.len T.z_len (dv_cons (de_v C.toCxD 1 v__law_pick._law_items) dv_nil)) da_nil))) (fun _ _ => rfl) C.toCxD.hK)))
theorem ok__law_pick {P : Program} {w : World} {base : Heap} {M : Mx} (T : Tx M w) (Dx : DefAt M "_law_pick" s__law_pick ["_law_rng", "_law_items"]) (C__law_draw : Cal P w base M "_law_draw" 1 2 m__law_draw) : FnOk P w M.K M.mg base (L2.CX P w) 2 Dx.f Dx.fd ["_law_rng", "_law_items"] (spD M 2 m__law_pick) := by
  have h : ∀ (cdv : Value) (A : Around) (outer : List Env) (s : Shared) (H : Hp) (E : XK), Room 1 (A.deeper (envOfC "_law_pick" (defScope s__law_pick) s.heap.objs.size Dx.f cdv)) → DSs (cxOf (L2.CX P w) P w M.K M.mg base n__law_pick "_law_pick" (defScope s__law_pick) Dx.f cdv A outer s H E) M (fun cls d _ H' => E cls d H') (defBody s__law_pick) b__law_pick := fun cdv A outer s H E hr => d__law_pick T C__law_draw (cxF_of sc__law_pick hr)
  exact fn_D Dx.fu sc__law_pick h
def cal__law_pick {P : Program} {w : World} {base : Heap} {M : Mx} (T : Tx M w) (Dx : DefAt M "_law_pick" s__law_pick ["_law_rng", "_law_items"]) (C__law_draw : Cal P w base M "_law_draw" 1 2 m__law_draw) : Cal P w base M "_law_pick" 2 2 m__law_pick := Dx.cal (ok__law_pick (P := P) (base := base) T Dx C__law_draw)
abbrev s__law_fraction_text : Stmt := topS 39
abbrev n__law_fraction_text : List Str := ["_law_value"]
theorem sc__law_fraction_text : FnScope n__law_fraction_text ["_law_value"] (defScope s__law_fraction_text) := ⟨rfl, rfl, rfl, by decide +kernel, rfl, by decide +kernel, by decide +kernel⟩
structure V__law_fraction_text : Prop where
  _law_value : NameOk (defScope s__law_fraction_text) "_law_value"
theorem v__law_fraction_text : V__law_fraction_text := ⟨⟨by unfold Vis; decide +kernel, by decide +kernel, by decide +kernel⟩⟩
structure G__law_fraction_text : Prop where
  str : GlOk (defScope s__law_fraction_text) "str"
theorem g__law_fraction_text : G__law_fraction_text := ⟨⟨by decide +kernel, by decide +kernel, by decide +kernel⟩⟩
def b__law_fraction_text : DM Fl := sRet (dOp2 addD (dCb gStr (vCons (dOp2 ixD (dVar 0) (dC (.int 0))) (vNil))) (dIf (fun ρ => (dOp2 eqD (dOp2 ixD (dVar 0) (dC (.int 1))) (dC (.int 1)) ρ).bind asB) (dC (.str "")) (dOp2 addD (dC (.str "/")) (dCb gStr (vCons (dOp2 ixD (dVar 0) (dC (.int 1))) (vNil))))))
def m__law_fraction_text : SE → R RV := mFn n__law_fraction_text.length b__law_fraction_text
theorem d__law_fraction_text {P : Program} {w : World} {base : Heap} {M : Mx} (T : Tx M w)  {X : Cx} {W : DL.WX} (C : CxF P w base M n__law_fraction_text (defScope s__law_fraction_text) 0 X W) : DSs X M W (defBody s__law_fraction_text) b__law_fraction_text :=
  (dss_one (ds_ret (de_add (de_strF C.toCxD g__law_fraction_text.str T.z_str (dv_cons (de_ix (de_v C.toCxD 0 v__law_fraction_text._law_value) de_int (fun _ _ => rfl) C.toCxD.hK) dv_nil)) (de_if (dt_eq (de_ix (de_v C.toCxD 0 v__law_fraction_text._law_value) de_int (fun _ _ => rfl) C.toCxD.hK) de_int C.toCxD.u64 C.toCxD.hK) de_str (de_add de_str (de_strF C.toCxD g__law_fraction_text.str T.z_str (dv_cons (de_ix (de_v C.toCxD 0 v__law_fraction_text._law_value) de_int (fun _ _ => rfl) C.toCxD.hK) dv_nil)) C.toCxD.hK)) C.toCxD.hK)))
theorem ok__law_fraction_text {P : Program} {w : World} {base : Heap} {M : Mx} (T : Tx M w) (Dx : DefAt M "_law_fraction_text" s__law_fraction_text ["_law_value"])  : FnOk P w M.K M.mg base (L2.CX P w) 1 Dx.f Dx.fd ["_law_value"] (spD M 1 m__law_fraction_text) := by
  have h : ∀ (cdv : Value) (A : Around) (outer : List Env) (s : Shared) (H : Hp) (E : XK), Room 0 (A.deeper (envOfC "_law_fraction_text" (defScope s__law_fraction_text) s.heap.objs.size Dx.f cdv)) → DSs (cxOf (L2.CX P w) P w M.K M.mg base n__law_fraction_text "_law_fraction_text" (defScope s__law_fraction_text) Dx.f cdv A outer s H E) M (fun cls d _ H' => E cls d H') (defBody s__law_fraction_text) b__law_fraction_text := fun cdv A outer s H E hr => d__law_fraction_text T  (cxF_of sc__law_fraction_text hr)
  exact fn_D Dx.fu sc__law_fraction_text h
def cal__law_fraction_text {P : Program} {w : World} {base : Heap} {M : Mx} (T : Tx M w) (Dx : DefAt M "_law_fraction_text" s__law_fraction_text ["_law_value"])  : Cal P w base M "_law_fraction_text" 1 1 m__law_fraction_text := Dx.cal (ok__law_fraction_text (P := P) (base := base) T Dx )
abbrev s__law_text : Stmt := topS 40
abbrev n__law_text : List Str := ["_law_expression_here", "_law_word", "_law_back", "_law_front"]
theorem sc__law_text : FnScope n__law_text ["_law_expression_here"] (defScope s__law_text) := ⟨rfl, rfl, rfl, by decide +kernel, rfl, by decide +kernel, by decide +kernel⟩
structure V__law_text : Prop where
  _law_expression_here : NameOk (defScope s__law_text) "_law_expression_here"
  _law_word : NameOk (defScope s__law_text) "_law_word"
  _law_back : NameOk (defScope s__law_text) "_law_back"
  _law_front : NameOk (defScope s__law_text) "_law_front"
theorem v__law_text : V__law_text := ⟨⟨by unfold Vis; decide +kernel, by decide +kernel, by decide +kernel⟩, ⟨by unfold Vis; decide +kernel, by decide +kernel, by decide +kernel⟩, ⟨by unfold Vis; decide +kernel, by decide +kernel, by decide +kernel⟩, ⟨by unfold Vis; decide +kernel, by decide +kernel, by decide +kernel⟩⟩
structure L__law_text : Prop where
  _law_word : L2.Loc (defScope s__law_text) "_law_word"
  _law_back : L2.Loc (defScope s__law_text) "_law_back"
  _law_front : L2.Loc (defScope s__law_text) "_law_front"
theorem l__law_text : L__law_text := ⟨by unfold L2.Loc; decide +kernel, by unfold L2.Loc; decide +kernel, by unfold L2.Loc; decide +kernel⟩
structure G__law_text : Prop where
  _law_fraction_text : GlOk (defScope s__law_text) "_law_fraction_text"
  _law_text : GlOk (defScope s__law_text) "_law_text"
theorem g__law_text : G__law_text := ⟨⟨by decide +kernel, by decide +kernel, by decide +kernel⟩, ⟨by decide +kernel, by decide +kernel, by decide +kernel⟩⟩
def b__law_text (m : SE → R RV) : DM Fl := sSeq (sSet 1 (dOp2 ixD (dVar 0) (dC (.int 0)))) (sSeq (sIf (fun ρ => (dOp2 eqD (dVar 1) (dC (.str "x")) ρ).bind asB) (sRet (dC (.str "x"))) (sPass)) (sSeq (sIf (fun ρ => (dOp2 eqD (dVar 1) (dC (.str "number")) ρ).bind asB) (sRet (dCall 1 [] m__law_fraction_text (aCons (dOp2 ixD (dVar 0) (dC (.int 1))) (aNil)))) (sPass)) (sSeq (sSet 2 (dCall 1 [] m (aCons (dOp2 ixD (dVar 0) (dOp1 negD (dC (.int 1)))) (aNil)))) (sSeq (sIf (fun ρ => (dOp2 eqD (dVar 1) (dC (.str "multiple")) ρ).bind asB) (sRet (dOp2 addD (dOp2 addD (dCall 1 [] m__law_fraction_text (aCons (dOp2 ixD (dVar 0) (dC (.int 1))) (aNil))) (dC (.str "*"))) (dVar 2))) (sPass)) (sSeq (sIf (fun ρ => (dOp2 eqD (dVar 1) (dC (.str "abs")) ρ).bind asB) (sRet (dOp2 addD (dOp2 addD (dC (.str "abs(")) (dVar 2)) (dC (.str ")")))) (sPass)) (sSeq (sIf (fun ρ => (dOp2 eqD (dVar 1) (dC (.str "call")) ρ).bind asB) (sRet (dOp2 addD (dOp2 addD (dOp2 addD (dOp2 ixD (dVar 0) (dC (.int 1))) (dC (.str "("))) (dVar 2)) (dC (.str ")")))) (sPass)) (sSeq (sSet 3 (dCall 1 [] m (aCons (dOp2 ixD (dVar 0) (dC (.int 1))) (aNil)))) (sSeq (sIf (fun ρ => (dOp2 (inD false) (dVar 1) (dTup (aCons (dC (.str "max")) (aCons (dC (.str "min")) (aNil)))) ρ).bind asB) (sRet (dOp2 addD (dOp2 addD (dOp2 addD (dOp2 addD (dOp2 addD (dVar 1) (dC (.str "("))) (dVar 3)) (dC (.str ", "))) (dVar 2)) (dC (.str ")")))) (sPass)) (sRet (dOp2 addD (dOp2 addD (dOp2 addD (dOp2 addD (dC (.str "(")) (dVar 3)) (dIf (fun ρ => (dOp2 eqD (dVar 1) (dC (.str "add")) ρ).bind asB) (dC (.str " + ")) (dC (.str " - ")))) (dVar 2)) (dC (.str ")"))))))))))))
def m__law_text : Nat → SE → R RV
  | 0 => mBad
  | n + 1 => mFn n__law_text.length (b__law_text (m__law_text n))
theorem d__law_text {P : Program} {w : World} {base : Heap} {M : Mx} (T : Tx M w) (C__law_fraction_text : Cal P w base M "_law_fraction_text" 1 1 m__law_fraction_text) (k : Nat) (hk : 1 ≤ k) (m : SE → R RV) (C__law_text : Cal P w base M "_law_text" k 1 m) {X : Cx} {W : DL.WX} (C : CxF P w base M n__law_text (defScope s__law_text) k X W) : DSs X M W (defBody s__law_text) (b__law_text m) :=
  (dss_cons (ds_v C.toCxD 1 (C.st l__law_text._law_word) (de_ix (de_v C.toCxD 0 v__law_text._law_expression_here) de_int (fun _ _ => rfl) C.toCxD.hK)) (dss_cons (ds_if (dt_eq (de_v C.toCxD 1 v__law_text._law_word) de_str C.toCxD.u64 C.toCxD.hK) (dss_one (ds_ret de_str)) dss_nil) (dss_cons (ds_if (dt_eq (de_v C.toCxD 1 v__law_text._law_word) de_str C.toCxD.u64 C.toCxD.hK) (dss_one (ds_ret (de_callC C.toCxD C__law_fraction_text g__law_text._law_fraction_text (by omega) (da_cons (de_ix (de_v C.toCxD 0 v__law_text._law_expression_here) de_int (fun _ _ => rfl) C.toCxD.hK) da_nil)))) dss_nil) (dss_cons (ds_v C.toCxD 2 (C.st l__law_text._law_back) (de_callC C.toCxD C__law_text g__law_text._law_text (by omega) (da_cons (de_ix (de_v C.toCxD 0 v__law_text._law_expression_here) (de_neg de_int) (fun _ _ => rfl) C.toCxD.hK) da_nil))) (dss_cons (ds_if (dt_eq (de_v C.toCxD 1 v__law_text._law_word) de_str C.toCxD.u64 C.toCxD.hK) (dss_one (ds_ret (de_add (de_add (de_callC C.toCxD C__law_fraction_text g__law_text._law_fraction_text (by omega) (da_cons (de_ix (de_v C.toCxD 0 v__law_text._law_expression_here) de_int (fun _ _ => rfl) C.toCxD.hK) da_nil)) de_str C.toCxD.hK) (de_v C.toCxD 2 v__law_text._law_back) C.toCxD.hK))) dss_nil) (dss_cons (ds_if (dt_eq (de_v C.toCxD 1 v__law_text._law_word) de_str C.toCxD.u64 C.toCxD.hK) (dss_one (ds_ret (de_add (de_add de_str (de_v C.toCxD 2 v__law_text._law_back) C.toCxD.hK) de_str C.toCxD.hK))) dss_nil) (dss_cons (ds_if (dt_eq (de_v C.toCxD 1 v__law_text._law_word) de_str C.toCxD.u64 C.toCxD.hK) (dss_one (ds_ret (de_add (de_add (de_add (de_ix (de_v C.toCxD 0 v__law_text._law_expression_here) de_int (fun _ _ => rfl) C.toCxD.hK) de_str C.toCxD.hK) (de_v C.toCxD 2 v__law_text._law_back) C.toCxD.hK) de_str C.toCxD.hK))) dss_nil) (dss_cons (ds_v C.toCxD 3 (C.st l__law_text._law_front) (de_callC C.toCxD C__law_text g__law_text._law_text (by omega) (da_cons (de_ix (de_v C.toCxD 0 v__law_text._law_expression_here) de_int (fun _ _ => rfl) C.toCxD.hK) da_nil))) (dss_cons (ds_if (dt_in (de_v C.toCxD 1 v__law_text._law_word) (de_tup (da_cons de_str (da_cons de_str da_nil))) C.toCxD.u65 rfl C.toCxD.hK) (dss_one (ds_ret (de_add (de_add (de_add (de_add (de_add (de_v C.toCxD 1 v__law_text._law_word) de_str C.toCxD.hK) (de_v C.toCxD 3 v__law_text._law_front) C.toCxD.hK) de_str C.toCxD.hK) (de_v C.toCxD 2 v__law_text._law_back) C.toCxD.hK) de_str C.toCxD.hK))) dss_nil) (dss_one (ds_ret (de_add (de_add (de_add (de_add de_str (de_v C.toCxD 3 v__law_text._law_front) C.toCxD.hK) (de_if (dt_eq (de_v C.toCxD 1 v__law_text._law_word) de_str C.toCxD.u64 C.toCxD.hK) de_str de_str) C.toCxD.hK) (de_v C.toCxD 2 v__law_text._law_back) C.toCxD.hK) de_str C.toCxD.hK))))))))))))
theorem ok__law_text {P : Program} {w : World} {base : Heap} {M : Mx} (T : Tx M w) (Dx : DefAt M "_law_text" s__law_text ["_law_expression_here"]) (C__law_fraction_text : Cal P w base M "_law_fraction_text" 1 1 m__law_fraction_text) : ∀ n : Nat, FnOk P w M.K M.mg base (L2.CX P w) (1 + n) Dx.f Dx.fd ["_law_expression_here"] (spD M 1 (m__law_text n))
  | 0 => fn_bad
  | n + 1 => by
    have ih := ok__law_text (P := P) (base := base) T Dx C__law_fraction_text n
    have h : ∀ (cdv : Value) (A : Around) (outer : List Env) (s : Shared) (H : Hp) (E : XK), Room (1 + n) (A.deeper (envOfC "_law_text" (defScope s__law_text) s.heap.objs.size Dx.f cdv)) → DSs (cxOf (L2.CX P w) P w M.K M.mg base n__law_text "_law_text" (defScope s__law_text) Dx.f cdv A outer s H E) M (fun cls d _ H' => E cls d H') (defBody s__law_text) (b__law_text (m__law_text n)) := fun cdv A outer s H E hr => d__law_text T C__law_fraction_text (1 + n) (by omega) (m__law_text n) (Dx.cal ih) (cxF_of sc__law_text hr)
    exact fn_D Dx.fu sc__law_text h
def cal__law_text {P : Program} {w : World} {base : Heap} {M : Mx} (T : Tx M w) (Dx : DefAt M "_law_text" s__law_text ["_law_expression_here"]) (C__law_fraction_text : Cal P w base M "_law_fraction_text" 1 1 m__law_fraction_text) : Cal P w base M "_law_text" 9 1 (m__law_text 8) := Dx.cal (ok__law_text (P := P) (base := base) T Dx C__law_fraction_text 8)
abbrev s__law_lowest : Stmt := topS 33
abbrev n__law_lowest : List Str := ["_law_above", "_law_below", "_law_one", "_law_other"]
theorem sc__law_lowest : FnScope n__law_lowest ["_law_above", "_law_below"] (defScope s__law_lowest) := ⟨rfl, rfl, rfl, by decide +kernel, rfl, by decide +kernel, by decide +kernel⟩
structure V__law_lowest : Prop where
  _law_below : NameOk (defScope s__law_lowest) "_law_below"
  _law_above : NameOk (defScope s__law_lowest) "_law_above"
  _law_other : NameOk (defScope s__law_lowest) "_law_other"
  _law_one : NameOk (defScope s__law_lowest) "_law_one"
theorem v__law_lowest : V__law_lowest := ⟨⟨by unfold Vis; decide +kernel, by decide +kernel, by decide +kernel⟩, ⟨by unfold Vis; decide +kernel, by decide +kernel, by decide +kernel⟩, ⟨by unfold Vis; decide +kernel, by decide +kernel, by decide +kernel⟩, ⟨by unfold Vis; decide +kernel, by decide +kernel, by decide +kernel⟩⟩
structure G__law_lowest : Prop where
  abs : GlOk (defScope s__law_lowest) "abs"
theorem g__law_lowest : G__law_lowest := ⟨⟨by decide +kernel, by decide +kernel, by decide +kernel⟩⟩
def b__law_lowest : DM Fl := sSeq (sIf (fun ρ => (dOp2 ltD (dVar 1) (dC (.int 0)) ρ).bind asB) (sPar 0 1 (aCons (dOp2 subD (dC (.int 0)) (dVar 0)) (aCons (dOp2 subD (dC (.int 0)) (dVar 1)) (aNil)))) (sPass)) (sSeq (sPar 2 3 (aCons (dCb gAbs (vCons (dVar 0) (vNil))) (aCons (dVar 1) (aNil)))) (sSeq (sWhile (fun ρ => (dOp2 neD (dVar 3) (dC (.int 0)) ρ).bind asB) (sPar 2 3 (aCons (dVar 3) (aCons (dOp2 modD (dVar 2) (dVar 3)) (aNil))))) (sRet (dTup (aCons (dOp2 fdivD (dVar 0) (dVar 2)) (aCons (dOp2 fdivD (dVar 1) (dVar 2)) (aNil)))))))
def m__law_lowest : SE → R RV := mFn n__law_lowest.length b__law_lowest
theorem d__law_lowest {P : Program} {w : World} {base : Heap} {M : Mx} (T : Tx M w)  {X : Cx} {W : DL.WX} (C : CxF P w base M n__law_lowest (defScope s__law_lowest) 0 X W) : DSs X M W (defBody s__law_lowest) b__law_lowest :=
  (dss_cons (ds_if (dt_lt (de_v C.toCxD 1 v__law_lowest._law_below) de_int) (dss_one (ds_parv C.toCxD 0 1 (by decide +kernel) (by decide +kernel) rfl (by decide +kernel) (da_cons (de_sub de_int (de_v C.toCxD 0 v__law_lowest._law_above)) (da_cons (de_sub de_int (de_v C.toCxD 1 v__law_lowest._law_below)) da_nil)))) dss_nil) (dss_cons (ds_parv C.toCxD 2 3 (by decide +kernel) (by decide +kernel) rfl (by decide +kernel) (da_cons (de_absF C.toCxD g__law_lowest.abs T.z_abs (dv_cons (de_v C.toCxD 0 v__law_lowest._law_above) dv_nil)) (da_cons (de_v C.toCxD 1 v__law_lowest._law_below) da_nil))) (dss_cons (ds_while C.ps (dt_ne (de_v C.toCxD 3 v__law_lowest._law_other) de_int C.toCxD.u64 C.toCxD.hK) (dss_one (ds_parv C.toCxD 2 3 (by decide +kernel) (by decide +kernel) rfl (by decide +kernel) (da_cons (de_v C.toCxD 3 v__law_lowest._law_other) (da_cons (de_mod (de_v C.toCxD 2 v__law_lowest._law_one) (de_v C.toCxD 3 v__law_lowest._law_other)) da_nil))))) (dss_one (ds_ret (de_tup (da_cons (de_fdiv (de_v C.toCxD 0 v__law_lowest._law_above) (de_v C.toCxD 2 v__law_lowest._law_one)) (da_cons (de_fdiv (de_v C.toCxD 1 v__law_lowest._law_below) (de_v C.toCxD 2 v__law_lowest._law_one)) da_nil))))))))
theorem ok__law_lowest {P : Program} {w : World} {base : Heap} {M : Mx} (T : Tx M w) (Dx : DefAt M "_law_lowest" s__law_lowest ["_law_above", "_law_below"])  : FnOk P w M.K M.mg base (L2.CX P w) 1 Dx.f Dx.fd ["_law_above", "_law_below"] (spD M 2 m__law_lowest) := by
  have h : ∀ (cdv : Value) (A : Around) (outer : List Env) (s : Shared) (H : Hp) (E : XK), Room 0 (A.deeper (envOfC "_law_lowest" (defScope s__law_lowest) s.heap.objs.size Dx.f cdv)) → DSs (cxOf (L2.CX P w) P w M.K M.mg base n__law_lowest "_law_lowest" (defScope s__law_lowest) Dx.f cdv A outer s H E) M (fun cls d _ H' => E cls d H') (defBody s__law_lowest) b__law_lowest := fun cdv A outer s H E hr => d__law_lowest T  (cxF_of sc__law_lowest hr)
  exact fn_D Dx.fu sc__law_lowest h
def cal__law_lowest {P : Program} {w : World} {base : Heap} {M : Mx} (T : Tx M w) (Dx : DefAt M "_law_lowest" s__law_lowest ["_law_above", "_law_below"])  : Cal P w base M "_law_lowest" 1 2 m__law_lowest := Dx.cal (ok__law_lowest (P := P) (base := base) T Dx )
abbrev s__law_text_fraction : Stmt := topS 37
abbrev n__law_text_fraction : List Str := ["_law_rng", "_law_below"]
theorem sc__law_text_fraction : FnScope n__law_text_fraction ["_law_rng"] (defScope s__law_text_fraction) := ⟨rfl, rfl, rfl, by decide +kernel, rfl, by decide +kernel, by decide +kernel⟩
structure V__law_text_fraction : Prop where
  _law_rng : NameOk (defScope s__law_text_fraction) "_law_rng"
  _law_below : NameOk (defScope s__law_text_fraction) "_law_below"
theorem v__law_text_fraction : V__law_text_fraction := ⟨⟨by unfold Vis; decide +kernel, by decide +kernel, by decide +kernel⟩, ⟨by unfold Vis; decide +kernel, by decide +kernel, by decide +kernel⟩⟩
structure L__law_text_fraction : Prop where
  _law_below : L2.Loc (defScope s__law_text_fraction) "_law_below"
theorem l__law_text_fraction : L__law_text_fraction := ⟨by unfold L2.Loc; decide +kernel⟩
structure G__law_text_fraction : Prop where
  _law_draw : GlOk (defScope s__law_text_fraction) "_law_draw"
  _law_pick : GlOk (defScope s__law_text_fraction) "_law_pick"
  _law_lowest : GlOk (defScope s__law_text_fraction) "_law_lowest"
theorem g__law_text_fraction : G__law_text_fraction := ⟨⟨by decide +kernel, by decide +kernel, by decide +kernel⟩, ⟨by decide +kernel, by decide +kernel, by decide +kernel⟩, ⟨by decide +kernel, by decide +kernel, by decide +kernel⟩⟩
def b__law_text_fraction : DM Fl := sSeq (sSet 1 (dCall 2 [] m__law_pick (aIo 0 (aCons (dLst (aCons (dC (.int 1)) (aCons (dC (.int 1)) (aCons (dC (.int 2)) (aCons (dC (.int 3)) (aCons (dC (.int 4)) (aCons (dC (.int 7)) (aCons (dOp2 addD (dC (.int 1)) (dCall 2 [] m__law_draw (aIo 0 (aCons (dC (.int 999999)) (aNil))))) (aNil))))))))) (aNil))))) (sRet (dCall 2 [] m__law_lowest (aCons (dOp2 subD (dCall 2 [] m__law_draw (aIo 0 (aCons (dOp2 addD (dOp2 mulD (dC (.int 2)) (dCall 2 [] m__law_pick (aIo 0 (aCons (dLst (aCons (dC (.int 4)) (aCons (dC (.int 4)) (aCons (dC (.int 499999)) (aNil))))) (aNil))))) (dC (.int 1))) (aNil)))) (dC (.int 4))) (aCons (dVar 1) (aNil)))))
def m__law_text_fraction : SE → R RV := mFn n__law_text_fraction.length b__law_text_fraction
theorem d__law_text_fraction {P : Program} {w : World} {base : Heap} {M : Mx} (T : Tx M w) (C__law_pick : Cal P w base M "_law_pick" 2 2 m__law_pick) (C__law_draw : Cal P w base M "_law_draw" 1 2 m__law_draw) (C__law_lowest : Cal P w base M "_law_lowest" 1 2 m__law_lowest) {X : Cx} {W : DL.WX} (C : CxF P w base M n__law_text_fraction (defScope s__law_text_fraction) 2 X W) : DSs X M W (defBody s__law_text_fraction) b__law_text_fraction :=
  (dss_cons (ds_v C.toCxD 1 (C.st l__law_text_fraction._law_below) (de_callC C.toCxD C__law_pick g__law_text_fraction._law_pick (by decide) (da_v C.toCxD 0 v__law_text_fraction._law_rng (da_cons (de_lst (da_cons de_int (da_cons de_int (da_cons de_int (da_cons de_int (da_cons de_int (da_cons de_int (da_cons (de_add de_int (de_callC C.toCxD C__law_draw g__law_text_fraction._law_draw (by decide) (da_v C.toCxD 0 v__law_text_fraction._law_rng (da_cons de_int da_nil))) C.toCxD.hK) da_nil)))))))) da_nil)))) (dss_one (ds_ret (de_callC C.toCxD C__law_lowest g__law_text_fraction._law_lowest (by decide) (da_cons (de_sub (de_callC C.toCxD C__law_draw g__law_text_fraction._law_draw (by decide) (da_v C.toCxD 0 v__law_text_fraction._law_rng (da_cons (de_add (de_mul de_int (de_callC C.toCxD C__law_pick g__law_text_fraction._law_pick (by decide) (da_v C.toCxD 0 v__law_text_fraction._law_rng (da_cons (de_lst (da_cons de_int (da_cons de_int (da_cons de_int da_nil)))) da_nil)))) de_int C.toCxD.hK) da_nil))) de_int) (da_cons (de_v C.toCxD 1 v__law_text_fraction._law_below) da_nil))))))
theorem ok__law_text_fraction {P : Program} {w : World} {base : Heap} {M : Mx} (T : Tx M w) (Dx : DefAt M "_law_text_fraction" s__law_text_fraction ["_law_rng"]) (C__law_pick : Cal P w base M "_law_pick" 2 2 m__law_pick) (C__law_draw : Cal P w base M "_law_draw" 1 2 m__law_draw) (C__law_lowest : Cal P w base M "_law_lowest" 1 2 m__law_lowest) : FnOk P w M.K M.mg base (L2.CX P w) 3 Dx.f Dx.fd ["_law_rng"] (spD M 1 m__law_text_fraction) := by
  have h : ∀ (cdv : Value) (A : Around) (outer : List Env) (s : Shared) (H : Hp) (E : XK), Room 2 (A.deeper (envOfC "_law_text_fraction" (defScope s__law_text_fraction) s.heap.objs.size Dx.f cdv)) → DSs (cxOf (L2.CX P w) P w M.K M.mg base n__law_text_fraction "_law_text_fraction" (defScope s__law_text_fraction) Dx.f cdv A outer s H E) M (fun cls d _ H' => E cls d H') (defBody s__law_text_fraction) b__law_text_fraction := fun cdv A outer s H E hr => d__law_text_fraction T C__law_pick C__law_draw C__law_lowest (cxF_of sc__law_text_fraction hr)
  exact fn_D Dx.fu sc__law_text_fraction h
def cal__law_text_fraction {P : Program} {w : World} {base : Heap} {M : Mx} (T : Tx M w) (Dx : DefAt M "_law_text_fraction" s__law_text_fraction ["_law_rng"]) (C__law_pick : Cal P w base M "_law_pick" 2 2 m__law_pick) (C__law_draw : Cal P w base M "_law_draw" 1 2 m__law_draw) (C__law_lowest : Cal P w base M "_law_lowest" 1 2 m__law_lowest) : Cal P w base M "_law_text_fraction" 3 1 m__law_text_fraction := Dx.cal (ok__law_text_fraction (P := P) (base := base) T Dx C__law_pick C__law_draw C__law_lowest)
abbrev s__law_expression : Stmt := topS 38
abbrev n__law_expression : List Str := ["_law_rng", "_law_names_here", "_law_depth", "_law_way", "_law_word", "_law_front"]
theorem sc__law_expression : FnScope n__law_expression ["_law_rng", "_law_names_here", "_law_depth"] (defScope s__law_expression) := ⟨rfl, rfl, rfl, by decide +kernel, rfl, by decide +kernel, by decide +kernel⟩
structure V__law_expression : Prop where
  _law_rng : NameOk (defScope s__law_expression) "_law_rng"
  _law_depth : NameOk (defScope s__law_expression) "_law_depth"
  _law_way : NameOk (defScope s__law_expression) "_law_way"
  _law_names_here : NameOk (defScope s__law_expression) "_law_names_here"
  _law_front : NameOk (defScope s__law_expression) "_law_front"
  _law_word : NameOk (defScope s__law_expression) "_law_word"
theorem v__law_expression : V__law_expression := ⟨⟨by unfold Vis; decide +kernel, by decide +kernel, by decide +kernel⟩, ⟨by unfold Vis; decide +kernel, by decide +kernel, by decide +kernel⟩, ⟨by unfold Vis; decide +kernel, by decide +kernel, by decide +kernel⟩, ⟨by unfold Vis; decide +kernel, by decide +kernel, by decide +kernel⟩, ⟨by unfold Vis; decide +kernel, by decide +kernel, by decide +kernel⟩, ⟨by unfold Vis; decide +kernel, by decide +kernel, by decide +kernel⟩⟩
structure L__law_expression : Prop where
  _law_way : L2.Loc (defScope s__law_expression) "_law_way"
  _law_word : L2.Loc (defScope s__law_expression) "_law_word"
  _law_front : L2.Loc (defScope s__law_expression) "_law_front"
theorem l__law_expression : L__law_expression := ⟨by unfold L2.Loc; decide +kernel, by unfold L2.Loc; decide +kernel, by unfold L2.Loc; decide +kernel⟩
structure G__law_expression : Prop where
  _law_draw : GlOk (defScope s__law_expression) "_law_draw"
  _law_text_fraction : GlOk (defScope s__law_expression) "_law_text_fraction"
  _law_pick : GlOk (defScope s__law_expression) "_law_pick"
  _law_expression : GlOk (defScope s__law_expression) "_law_expression"
theorem g__law_expression : G__law_expression := ⟨⟨by decide +kernel, by decide +kernel, by decide +kernel⟩, ⟨by decide +kernel, by decide +kernel, by decide +kernel⟩, ⟨by decide +kernel, by decide +kernel, by decide +kernel⟩, ⟨by decide +kernel, by decide +kernel, by decide +kernel⟩⟩
def b__law_expression (m : SE → R RV) : DM Fl := sSeq (sSet 3 (dCall 2 [] m__law_draw (aIo 0 (aCons (dC (.int 10)) (aNil))))) (sSeq (sIf (dOrT (fun ρ => (dOp2 ltD (dVar 2) (dC (.int 2)) ρ).bind asB) (fun ρ => (dOp2 eqD (dVar 3) (dC (.int 0)) ρ).bind asB)) (sRet (dCall 2 [] m__law_pick (aIo 0 (aCons (dLst (aCons (dTup (aCons (dC (.str "x")) (aNil))) (aCons (dTup (aCons (dC (.str "x")) (aNil))) (aCons (dTup (aCons (dC (.str "number")) (aCons (dCall 1 [] m__law_text_fraction (aIo 0 (aNil))) (aNil)))) (aNil))))) (aNil))))) (sPass)) (sSeq (sIf (fun ρ => (dOp2 eqD (dVar 3) (dC (.int 1)) ρ).bind asB) (sRet (dTup (aCons (dC (.str "abs")) (aCons (dCall 3 [] m (aIo 0 (aCons (dVar 1) (aCons (dOp2 subD (dVar 2) (dC (.int 1))) (aNil))))) (aNil))))) (sPass)) (sSeq (sIf (dOrT (fun ρ => (dOp2 eqD (dVar 3) (dC (.int 2)) ρ).bind asB) (fun ρ => (dOp2 eqD (dVar 3) (dC (.int 3)) ρ).bind asB)) (sRet (dTup (aCons (dC (.str "multiple")) (aCons (dCall 1 [] m__law_text_fraction (aIo 0 (aNil))) (aCons (dCall 3 [] m (aIo 0 (aCons (dVar 1) (aCons (dOp2 subD (dVar 2) (dC (.int 1))) (aNil))))) (aNil)))))) (sPass)) (sSeq (sIf (dAndT (fun ρ => (dOp2 gtD (dVar 3) (dC (.int 7)) ρ).bind asB) (fun ρ => (dOp2 neD (dVar 1) (dLst (aNil)) ρ).bind asB)) (sRet (dTup (aCons (dC (.str "call")) (aCons (dCall 2 [] m__law_pick (aIo 0 (aCons (dVar 1) (aNil)))) (aCons (dCall 3 [] m (aIo 0 (aCons (dVar 1) (aCons (dOp2 subD (dVar 2) (dC (.int 1))) (aNil))))) (aNil)))))) (sPass)) (sSeq (sSet 4 (dCall 2 [] m__law_pick (aIo 0 (aCons (dLst (aCons (dC (.str "add")) (aCons (dC (.str "subtract")) (aCons (dC (.str "max")) (aCons (dC (.str "min")) (aNil)))))) (aNil))))) (sSeq (sSet 5 (dCall 3 [] m (aIo 0 (aCons (dVar 1) (aCons (dOp2 subD (dVar 2) (dC (.int 1))) (aNil)))))) (sRet (dTup (aCons (dVar 4) (aCons (dVar 5) (aCons (dCall 3 [] m (aIo 0 (aCons (dVar 1) (aCons (dOp2 subD (dVar 2) (dC (.int 1))) (aNil))))) (aNil))))))))))))
def m__law_expression : Nat → SE → R RV
  | 0 => mBad
  | n + 1 => mFn n__law_expression.length (b__law_expression (m__law_expression n))
theorem d__law_expression {P : Program} {w : World} {base : Heap} {M : Mx} (T : Tx M w) (C__law_draw : Cal P w base M "_law_draw" 1 2 m__law_draw) (C__law_pick : Cal P w base M "_law_pick" 2 2 m__law_pick) (C__law_text_fraction : Cal P w base M "_law_text_fraction" 3 1 m__law_text_fraction) (k : Nat) (hk : 3 ≤ k) (m : SE → R RV) (C__law_expression : Cal P w base M "_law_expression" k 3 m) {X : Cx} {W : DL.WX} (C : CxF P w base M n__law_expression (defScope s__law_expression) k X W) : DSs X M W (defBody s__law_expression) (b__law_expression m) :=
  (dss_cons (ds_v C.toCxD 3 (C.st l__law_expression._law_way) (de_callC C.toCxD C__law_draw g__law_expression._law_draw (by omega) (da_v C.toCxD 0 v__law_expression._law_rng (da_cons de_int da_nil)))) (dss_cons (ds_if (dt_w (dw_or (dt_lt (de_v C.toCxD 2 v__law_expression._law_depth) de_int) (dw_or1 (dt_eq (de_v C.toCxD 3 v__law_expression._law_way) de_int C.toCxD.u64 C.toCxD.hK)))) (dss_one (ds_ret (de_callC C.toCxD C__law_pick g__law_expression._law_pick (by omega) (da_v C.toCxD 0 v__law_expression._law_rng (da_cons (de_lst (da_cons (de_tup (da_cons de_str da_nil)) (da_cons (de_tup (da_cons de_str da_nil)) (da_cons (de_tup (da_cons de_str (da_cons (de_callC C.toCxD C__law_text_fraction g__law_expression._law_text_fraction (by omega) (da_v C.toCxD 0 v__law_expression._law_rng da_nil)) da_nil))) da_nil)))) da_nil))))) dss_nil) (dss_cons (ds_if (dt_eq (de_v C.toCxD 3 v__law_expression._law_way) de_int C.toCxD.u64 C.toCxD.hK) (dss_one (ds_ret (de_tup (da_cons de_str (da_cons (de_callC C.toCxD C__law_expression g__law_expression._law_expression (by omega) (da_v C.toCxD 0 v__law_expression._law_rng (da_cons (de_v C.toCxD 1 v__law_expression._law_names_here) (da_cons (de_sub (de_v C.toCxD 2 v__law_expression._law_depth) de_int) da_nil)))) da_nil))))) dss_nil) (dss_cons (ds_if (dt_w (dw_or (dt_eq (de_v C.toCxD 3 v__law_expression._law_way) de_int C.toCxD.u64 C.toCxD.hK) (dw_or1 (dt_eq (de_v C.toCxD 3 v__law_expression._law_way) de_int C.toCxD.u64 C.toCxD.hK)))) (dss_one (ds_ret (de_tup (da_cons de_str (da_cons (de_callC C.toCxD C__law_text_fraction g__law_expression._law_text_fraction (by omega) (da_v C.toCxD 0 v__law_expression._law_rng da_nil)) (da_cons (de_callC C.toCxD C__law_expression g__law_expression._law_expression (by omega) (da_v C.toCxD 0 v__law_expression._law_rng (da_cons (de_v C.toCxD 1 v__law_expression._law_names_here) (da_cons (de_sub (de_v C.toCxD 2 v__law_expression._law_depth) de_int) da_nil)))) da_nil)))))) dss_nil) (dss_cons (ds_if (dt_w (dw_and (dt_gt (de_v C.toCxD 3 v__law_expression._law_way) de_int) (dw_and1 (dt_ne (de_v C.toCxD 1 v__law_expression._law_names_here) (de_lst da_nil) C.toCxD.u64 C.toCxD.hK)))) (dss_one (ds_ret (de_tup (da_cons de_str (da_cons (de_callC C.toCxD C__law_pick g__law_expression._law_pick (by omega) (da_v C.toCxD 0 v__law_expression._law_rng (da_cons (de_v C.toCxD 1 v__law_expression._law_names_here) da_nil))) (da_cons (de_callC C.toCxD C__law_expression g__law_expression._law_expression (by omega) (da_v C.toCxD 0 v__law_expression._law_rng (da_cons (de_v C.toCxD 1 v__law_expression._law_names_here) (da_cons (de_sub (de_v C.toCxD 2 v__law_expression._law_depth) de_int) da_nil)))) da_nil)))))) dss_nil) (dss_cons (ds_v C.toCxD 4 (C.st l__law_expression._law_word) (de_callC C.toCxD C__law_pick g__law_expression._law_pick (by omega) (da_v C.toCxD 0 v__law_expression._law_rng (da_cons (de_lst (da_cons de_str (da_cons de_str (da_cons de_str (da_cons de_str da_nil))))) da_nil)))) (dss_cons (ds_v C.toCxD 5 (C.st l__law_expression._law_front) (de_callC C.toCxD C__law_expression g__law_expression._law_expression (by omega) (da_v C.toCxD 0 v__law_expression._law_rng (da_cons (de_v C.toCxD 1 v__law_expression._law_names_here) (da_cons (de_sub (de_v C.toCxD 2 v__law_expression._law_depth) de_int) da_nil))))) (dss_one (ds_ret (de_tup (da_cons (de_v C.toCxD 4 v__law_expression._law_word) (da_cons (de_v C.toCxD 5 v__law_expression._law_front) (da_cons (de_callC C.toCxD C__law_expression g__law_expression._law_expression (by omega) (da_v C.toCxD 0 v__law_expression._law_rng (da_cons (de_v C.toCxD 1 v__law_expression._law_names_here) (da_cons (de_sub (de_v C.toCxD 2 v__law_expression._law_depth) de_int) da_nil)))) da_nil)))))))))))))
theorem ok__law_expression {P : Program} {w : World} {base : Heap} {M : Mx} (T : Tx M w) (Dx : DefAt M "_law_expression" s__law_expression ["_law_rng", "_law_names_here", "_law_depth"]) (C__law_draw : Cal P w base M "_law_draw" 1 2 m__law_draw) (C__law_pick : Cal P w base M "_law_pick" 2 2 m__law_pick) (C__law_text_fraction : Cal P w base M "_law_text_fraction" 3 1 m__law_text_fraction) : ∀ n : Nat, FnOk P w M.K M.mg base (L2.CX P w) (3 + n) Dx.f Dx.fd ["_law_rng", "_law_names_here", "_law_depth"] (spD M 3 (m__law_expression n))
  | 0 => fn_bad
  | n + 1 => by
    have ih := ok__law_expression (P := P) (base := base) T Dx C__law_draw C__law_pick C__law_text_fraction n
    have h : ∀ (cdv : Value) (A : Around) (outer : List Env) (s : Shared) (H : Hp) (E : XK), Room (3 + n) (A.deeper (envOfC "_law_expression" (defScope s__law_expression) s.heap.objs.size Dx.f cdv)) → DSs (cxOf (L2.CX P w) P w M.K M.mg base n__law_expression "_law_expression" (defScope s__law_expression) Dx.f cdv A outer s H E) M (fun cls d _ H' => E cls d H') (defBody s__law_expression) (b__law_expression (m__law_expression n)) := fun cdv A outer s H E hr => d__law_expression T C__law_draw C__law_pick C__law_text_fraction (3 + n) (by omega) (m__law_expression n) (Dx.cal ih) (cxF_of sc__law_expression hr)
    exact fn_D Dx.fu sc__law_expression h
def cal__law_expression {P : Program} {w : World} {base : Heap} {M : Mx} (T : Tx M w) (Dx : DefAt M "_law_expression" s__law_expression ["_law_rng", "_law_names_here", "_law_depth"]) (C__law_draw : Cal P w base M "_law_draw" 1 2 m__law_draw) (C__law_pick : Cal P w base M "_law_pick" 2 2 m__law_pick) (C__law_text_fraction : Cal P w base M "_law_text_fraction" 3 1 m__law_text_fraction) : Cal P w base M "_law_expression" 11 3 (m__law_expression 8) := Dx.cal (ok__law_expression (P := P) (base := base) T Dx C__law_draw C__law_pick C__law_text_fraction 8)
abbrev s__law_letters : Stmt := topS 34
abbrev n__law_letters : List Str := []
theorem sc__law_letters : FnScope n__law_letters [] (defScope s__law_letters) := ⟨rfl, rfl, rfl, by decide +kernel, rfl, by decide +kernel, by decide +kernel⟩
def b__law_letters : DM Fl := sRet (dC (.str "abcdefghijklmnopqrstuvwxyz"))
def m__law_letters : SE → R RV := mFn n__law_letters.length b__law_letters
theorem d__law_letters {P : Program} {w : World} {base : Heap} {M : Mx} (T : Tx M w)  {X : Cx} {W : DL.WX} (C : CxF P w base M n__law_letters (defScope s__law_letters) 0 X W) : DSs X M W (defBody s__law_letters) b__law_letters :=
  (dss_one (ds_ret de_str))
theorem ok__law_letters {P : Program} {w : World} {base : Heap} {M : Mx} (T : Tx M w) (Dx : DefAt M "_law_letters" s__law_letters [])  : FnOk P w M.K M.mg base (L2.CX P w) 1 Dx.f Dx.fd [] (spD M 0 m__law_letters) := by
  have h : ∀ (cdv : Value) (A : Around) (outer : List Env) (s : Shared) (H : Hp) (E : XK), Room 0 (A.deeper (envOfC "_law_letters" (defScope s__law_letters) s.heap.objs.size Dx.f cdv)) → DSs (cxOf (L2.CX P w) P w M.K M.mg base n__law_letters "_law_letters" (defScope s__law_letters) Dx.f cdv A outer s H E) M (fun cls d _ H' => E cls d H') (defBody s__law_letters) b__law_letters := fun cdv A outer s H E hr => d__law_letters T  (cxF_of sc__law_letters hr)
  exact fn_D Dx.fu sc__law_letters h
def cal__law_letters {P : Program} {w : World} {base : Heap} {M : Mx} (T : Tx M w) (Dx : DefAt M "_law_letters" s__law_letters [])  : Cal P w base M "_law_letters" 1 0 m__law_letters := Dx.cal (ok__law_letters (P := P) (base := base) T Dx )
abbrev s__law_names : Stmt := topS 36
abbrev n__law_names : List Str := ["_law_rng", "_law_many", "_law_width", "_law_step", "_law_lead", "_law_at_here", "_law_base", "_law_k", "_law_result", "_law_letter", "_law_name"]
theorem sc__law_names : FnScope n__law_names ["_law_rng", "_law_many"] (defScope s__law_names) := ⟨rfl, rfl, rfl, by decide +kernel, rfl, by decide +kernel, by decide +kernel⟩
structure V__law_names : Prop where
  _law_rng : NameOk (defScope s__law_names) "_law_rng"
  _law_width : NameOk (defScope s__law_names) "_law_width"
  _law_many : NameOk (defScope s__law_names) "_law_many"
  _law_lead : NameOk (defScope s__law_names) "_law_lead"
  _law_step : NameOk (defScope s__law_names) "_law_step"
  _law_k : NameOk (defScope s__law_names) "_law_k"
  _law_base : NameOk (defScope s__law_names) "_law_base"
  _law_at_here : NameOk (defScope s__law_names) "_law_at_here"
  _law_letter : NameOk (defScope s__law_names) "_law_letter"
  _law_result : NameOk (defScope s__law_names) "_law_result"
theorem v__law_names : V__law_names := ⟨⟨by unfold Vis; decide +kernel, by decide +kernel, by decide +kernel⟩, ⟨by unfold Vis; decide +kernel, by decide +kernel, by decide +kernel⟩, ⟨by unfold Vis; decide +kernel, by decide +kernel, by decide +kernel⟩, ⟨by unfold Vis; decide +kernel, by decide +kernel, by decide +kernel⟩, ⟨by unfold Vis; decide +kernel, by decide +kernel, by decide +kernel⟩, ⟨by unfold Vis; decide +kernel, by decide +kernel, by decide +kernel⟩, ⟨by unfold Vis; decide +kernel, by decide +kernel, by decide +kernel⟩, ⟨by unfold Vis; decide +kernel, by decide +kernel, by decide +kernel⟩, ⟨by unfold Vis; decide +kernel, by decide +kernel, by decide +kernel⟩, ⟨by unfold Vis; decide +kernel, by decide +kernel, by decide +kernel⟩⟩
structure L__law_names : Prop where
  _law_base : L2.Loc (defScope s__law_names) "_law_base"
  _law_result : L2.Loc (defScope s__law_names) "_law_result"
  _law_k : L2.Loc (defScope s__law_names) "_law_k"
  _law_letter : L2.Loc (defScope s__law_names) "_law_letter"
theorem l__law_names : L__law_names := ⟨by unfold L2.Loc; decide +kernel, by unfold L2.Loc; decide +kernel, by unfold L2.Loc; decide +kernel, by unfold L2.Loc; decide +kernel⟩
structure G__law_names : Prop where
  _law_pick : GlOk (defScope s__law_names) "_law_pick"
  _law_draw : GlOk (defScope s__law_names) "_law_draw"
  range : GlOk (defScope s__law_names) "range"
  _law_letters : GlOk (defScope s__law_names) "_law_letters"
theorem g__law_names : G__law_names := ⟨⟨by decide +kernel, by decide +kernel, by decide +kernel⟩, ⟨by decide +kernel, by decide +kernel, by decide +kernel⟩, ⟨by decide +kernel, by decide +kernel, by decide +kernel⟩, ⟨by decide +kernel, by decide +kernel, by decide +kernel⟩⟩
def b__law_names : DM Fl := sSeq (sPar 2 3 (aCons (dOp2 addD (dC (.int 2)) (dCall 2 [] m__law_draw (aIo 0 (aCons (dC (.int 6)) (aNil))))) (aCons (dCall 2 [] m__law_pick (aIo 0 (aCons (dLst (aCons (dC (.int 1)) (aCons (dC (.int 3)) (aCons (dC (.int 5)) (aCons (dC (.int 7)) (aCons (dC (.int 9)) (aNil))))))) (aNil)))) (aNil)))) (sSeq (sPar 4 5 (aCons (dCall 2 [] m__law_draw (aIo 0 (aCons (dC (.int 26)) (aNil)))) (aCons (dCall 2 [] m__law_draw (aIo 0 (aCons (dVar 2) (aNil)))) (aNil)))) (sSeq (sSet 6 (dStrJoin (dC (.str "")) (dLc [7] (iRange1 (vCons (dVar 2) (vNil))) (tgName 7) (tYesD) (dCall 2 [] m__law_pick (aIo 0 (aCons (dCall 0 [] m__law_letters aNil) (aNil))))))) (sSeq (sSet 8 (dLst (aNil))) (sSeq (sFor (iRange1 (vCons (dVar 1) (vNil))) (tgName 7) (sSeq (sSet 9 (dOp2 modD (dOp2 addD (dVar 4) (dOp2 mulD (dVar 3) (dVar 7))) (dC (.int 26)))) (sExpr (lmD 8 gAppend (aCons (dOp2 addD (dOp2 addD (dSl (dVar 6) (oNone) (oSome (dVar 5))) (dOp2 ixD (dCall 0 [] m__law_letters aNil) (dVar 9))) (dSl (dVar 6) (oSome (dOp2 addD (dVar 5) (dC (.int 1)))) (oNone))) (aNil)))))) (sSeq (sIf (dOrT (fun ρ => (dOp2 (inD false) (dC (.str "abs")) (dVar 8) ρ).bind asB) (dOrT (fun ρ => (dOp2 (inD false) (dC (.str "max")) (dVar 8) ρ).bind asB) (fun ρ => (dOp2 (inD false) (dC (.str "min")) (dVar 8) ρ).bind asB))) (sSet 8 (dLc [10] (iSeq (dVar 8)) (tgName 10) (tYesD) (dOp2 addD (dVar 10) (dC (.str "q"))))) (sPass)) (sRet (dVar 8)))))))
def m__law_names : SE → R RV := mFn n__law_names.length b__law_names
theorem d__law_names {P : Program} {w : World} {base : Heap} {M : Mx} (T : Tx M w) (C__law_pick : Cal P w base M "_law_pick" 2 2 m__law_pick) (C__law_draw : Cal P w base M "_law_draw" 1 2 m__law_draw) (C__law_letters : Cal P w base M "_law_letters" 1 0 m__law_letters) {X : Cx} {W : DL.WX} (C : CxF P w base M n__law_names (defScope s__law_names) 2 X W) : DSs X M W (defBody s__law_names) b__law_names :=
  (dss_cons (ds_parv C.toCxD 2 3 (by decide +kernel) (by decide +kernel) rfl (by decide +kernel) (da_cons (de_add de_int (de_callC C.toCxD C__law_draw g__law_names._law_draw (by decide) (da_v C.toCxD 0 v__law_names._law_rng (da_cons de_int da_nil))) C.toCxD.hK) (da_cons (de_callC C.toCxD C__law_pick g__law_names._law_pick (by decide) (da_v C.toCxD 0 v__law_names._law_rng (da_cons (de_lst (da_cons de_int (da_cons de_int (da_cons de_int (da_cons de_int (da_cons de_int da_nil)))))) da_nil))) da_nil))) (dss_cons (ds_parv C.toCxD 4 5 (by decide +kernel) (by decide +kernel) rfl (by decide +kernel) (da_cons (de_callC C.toCxD C__law_draw g__law_names._law_draw (by decide) (da_v C.toCxD 0 v__law_names._law_rng (da_cons de_int da_nil))) (da_cons (de_callC C.toCxD C__law_draw g__law_names._law_draw (by decide) (da_v C.toCxD 0 v__law_names._law_rng (da_cons (de_v C.toCxD 2 v__law_names._law_width) da_nil))) da_nil))) (dss_cons (ds_v C.toCxD 6 (C.st l__law_names._law_base) (de_joinF C.toCxD de_str (de_lcF C.toCxD [("_law_k", 7)] (blkOk_by (by decide +kernel)) tgName_ex (di_range1F C.toCxD g__law_names.range T.z_range (dv_cons (de_v C.toCxD 2 v__law_names._law_width) dv_nil)) (fun _ _ _ _ _ => (dg_v (C.toCxD.blk rfl _ _ _ _ _) 7 ((C.toCxD.blk rfl _ _ _ _ _).stl (by decide +kernel)))) (fun _ _ _ _ _ => dts_nil) (fun _ _ _ _ _ => (de_callC (C.toCxD.blk rfl _ _ _ _ _) C__law_pick ⟨by decide +kernel, by decide +kernel, by decide +kernel⟩ (by decide) (da_v (C.toCxD.blk rfl _ _ _ _ _) 0 ⟨by unfold Vis; decide +kernel, by decide +kernel, by decide +kernel⟩ (da_cons (de_callC0 (C.toCxD.blk rfl _ _ _ _ _) C__law_letters ⟨by decide +kernel, by decide +kernel, by decide +kernel⟩ (by decide)) da_nil))))))) (dss_cons (ds_v C.toCxD 8 (C.st l__law_names._law_result) (de_lst da_nil)) (dss_cons (ds_for C.ps C.cm (di_range1F C.toCxD g__law_names.range T.z_range (dv_cons (de_v C.toCxD 1 v__law_names._law_many) dv_nil)) (dg_v C.toCxD 7 (C.st l__law_names._law_k)) (dss_cons (ds_v C.toCxD 9 (C.st l__law_names._law_letter) (de_mod (de_add (de_v C.toCxD 4 v__law_names._law_lead) (de_mul (de_v C.toCxD 3 v__law_names._law_step) (de_v C.toCxD 7 v__law_names._law_k)) C.toCxD.hK) de_int)) (dss_one (ds_expr (de_lm C.toCxD 8 v__law_names._law_result lm_append (fun to t p q => pe_bm PySem.F.plainAttrs_list PySem.F.slot_list_append PySem.F.type_list_append mt_append p q) (da_cons (de_add (de_add (de_sl (de_v C.toCxD 6 v__law_names._law_base) do_none (do_some (de_v C.toCxD 5 v__law_names._law_at_here)) C.toCxD.hK) (de_ix (de_callC0 C.toCxD C__law_letters g__law_names._law_letters (by decide)) (de_v C.toCxD 9 v__law_names._law_letter) (fun _ _ => rfl) C.toCxD.hK) C.toCxD.hK) (de_sl (de_v C.toCxD 6 v__law_names._law_base) (do_some (de_add (de_v C.toCxD 5 v__law_names._law_at_here) de_int C.toCxD.hK)) do_none C.toCxD.hK) C.toCxD.hK) da_nil)))))) (dss_cons (ds_if (dt_w (dw_or (dt_in de_str (de_v C.toCxD 8 v__law_names._law_result) C.toCxD.u65 rfl C.toCxD.hK) (dw_or (dt_in de_str (de_v C.toCxD 8 v__law_names._law_result) C.toCxD.u65 rfl C.toCxD.hK) (dw_or1 (dt_in de_str (de_v C.toCxD 8 v__law_names._law_result) C.toCxD.u65 rfl C.toCxD.hK))))) (dss_one (ds_setLcF C.toCxD 8 (by decide +kernel) rfl (by decide +kernel) [("_law_name", 10)] (blkOk_by (by decide +kernel)) tgName_ex (di_seq (de_v C.toCxD 8 v__law_names._law_result) C.toCxD.hK) (fun _ _ _ _ _ => (dg_v (C.toCxD.blk rfl _ _ _ _ _) 10 ((C.toCxD.blk rfl _ _ _ _ _).stl (by decide +kernel)))) (fun _ _ _ _ _ => dts_nil) (fun _ _ _ _ _ => (de_add (de_v (C.toCxD.blk rfl _ _ _ _ _) 10 ⟨by unfold Vis; decide +kernel, by decide +kernel, by decide +kernel⟩) de_str (C.toCxD.blk rfl _ _ _ _ _).hK)))) dss_nil) (dss_one (ds_ret (de_v C.toCxD 8 v__law_names._law_result)))))))))
theorem ok__law_names {P : Program} {w : World} {base : Heap} {M : Mx} (T : Tx M w) (Dx : DefAt M "_law_names" s__law_names ["_law_rng", "_law_many"]) (C__law_pick : Cal P w base M "_law_pick" 2 2 m__law_pick) (C__law_draw : Cal P w base M "_law_draw" 1 2 m__law_draw) (C__law_letters : Cal P w base M "_law_letters" 1 0 m__law_letters) : FnOk P w M.K M.mg base (L2.CX P w) 3 Dx.f Dx.fd ["_law_rng", "_law_many"] (spD M 2 m__law_names) := by
  have h : ∀ (cdv : Value) (A : Around) (outer : List Env) (s : Shared) (H : Hp) (E : XK), Room 2 (A.deeper (envOfC "_law_names" (defScope s__law_names) s.heap.objs.size Dx.f cdv)) → DSs (cxOf (L2.CX P w) P w M.K M.mg base n__law_names "_law_names" (defScope s__law_names) Dx.f cdv A outer s H E) M (fun cls d _ H' => E cls d H') (defBody s__law_names) b__law_names := fun cdv A outer s H E hr => d__law_names T C__law_pick C__law_draw C__law_letters (cxF_of sc__law_names hr)
  exact fn_D Dx.fu sc__law_names h
def cal__law_names {P : Program} {w : World} {base : Heap} {M : Mx} (T : Tx M w) (Dx : DefAt M "_law_names" s__law_names ["_law_rng", "_law_many"]) (C__law_pick : Cal P w base M "_law_pick" 2 2 m__law_pick) (C__law_draw : Cal P w base M "_law_draw" 1 2 m__law_draw) (C__law_letters : Cal P w base M "_law_letters" 1 0 m__law_letters) : Cal P w base M "_law_names" 3 2 m__law_names := Dx.cal (ok__law_names (P := P) (base := base) T Dx C__law_pick C__law_draw C__law_letters)
abbrev s__law_altered : Stmt := topS 49
abbrev n__law_altered : List Str := ["_law_rng", "_law_text_here", "_law_signs", "_law_at_here", "_law_sign"]
theorem sc__law_altered : FnScope n__law_altered ["_law_rng", "_law_text_here"] (defScope s__law_altered) := ⟨rfl, rfl, rfl, by decide +kernel, rfl, by decide +kernel, by decide +kernel⟩
structure V__law_altered : Prop where
  _law_signs : NameOk (defScope s__law_altered) "_law_signs"
  _law_rng : NameOk (defScope s__law_altered) "_law_rng"
  _law_text_here : NameOk (defScope s__law_altered) "_law_text_here"
  _law_at_here : NameOk (defScope s__law_altered) "_law_at_here"
  _law_sign : NameOk (defScope s__law_altered) "_law_sign"
theorem v__law_altered : V__law_altered := ⟨⟨by unfold Vis; decide +kernel, by decide +kernel, by decide +kernel⟩, ⟨by unfold Vis; decide +kernel, by decide +kernel, by decide +kernel⟩, ⟨by unfold Vis; decide +kernel, by decide +kernel, by decide +kernel⟩, ⟨by unfold Vis; decide +kernel, by decide +kernel, by decide +kernel⟩, ⟨by unfold Vis; decide +kernel, by decide +kernel, by decide +kernel⟩⟩
structure L__law_altered : Prop where
  _law_signs : L2.Loc (defScope s__law_altered) "_law_signs"
theorem l__law_altered : L__law_altered := ⟨by unfold L2.Loc; decide +kernel⟩
structure G__law_altered : Prop where
  _law_pick : GlOk (defScope s__law_altered) "_law_pick"
  len : GlOk (defScope s__law_altered) "len"
  _law_draw : GlOk (defScope s__law_altered) "_law_draw"
theorem g__law_altered : G__law_altered := ⟨⟨by decide +kernel, by decide +kernel, by decide +kernel⟩, ⟨by decide +kernel, by decide +kernel, by decide +kernel⟩, ⟨by decide +kernel, by decide +kernel, by decide +kernel⟩⟩
def b__law_altered : DM Fl := sSeq (sSet 2 (dLst (aCons (dC (.str "")) (aCons (dC (.str " ")) (aCons (dC (.str "(")) (aCons (dC (.str ")")) (aCons (dC (.str ",")) (aCons (dC (.str "+")) (aCons (dC (.str "-")) (aCons (dC (.str "*")) (aCons (dC (.str "/")) (aCons (dC (.str "x")) (aCons (dC (.str "a")) (aCons (dC (.str "max(")) (aCons (dC (.str "A")) (aCons (dC (.str "0")) (aCons (dC (.str "1")) (aCons (dC (.str "2")) (aCons (dC (.str "7")) (aCons (dC (.str ".")) (aNil))))))))))))))))))))) (sSeq (sPar 3 4 (aCons (dCall 2 [] m__law_draw (aIo 0 (aCons (dOp2 addD (dCb gLen (vCons (dVar 1) (vNil))) (dC (.int 1))) (aNil)))) (aCons (dCall 2 [] m__law_pick (aIo 0 (aCons (dVar 2) (aNil)))) (aNil)))) (sSeq (sIf (fun ρ => (dOp2 eqD (dCall 2 [] m__law_draw (aIo 0 (aCons (dC (.int 6)) (aNil)))) (dC (.int 0)) ρ).bind asB) (sRet (dSl (dVar 1) (oNone) (oSome (dVar 3)))) (sPass)) (sRet (dOp2 addD (dOp2 addD (dSl (dVar 1) (oNone) (oSome (dVar 3))) (dVar 4)) (dSl (dVar 1) (oSome (dOp2 addD (dVar 3) (dCall 2 [] m__law_draw (aIo 0 (aCons (dC (.int 2)) (aNil)))))) (oNone))))))
def m__law_altered : SE → R RV := mFn n__law_altered.length b__law_altered
theorem d__law_altered {P : Program} {w : World} {base : Heap} {M : Mx} (T : Tx M w) (C__law_pick : Cal P w base M "_law_pick" 2 2 m__law_pick) (C__law_draw : Cal P w base M "_law_draw" 1 2 m__law_draw) {X : Cx} {W : DL.WX} (C : CxF P w base M n__law_altered (defScope s__law_altered) 2 X W) : DSs X M W (defBody s__law_altered) b__law_altered :=
  (dss_cons (ds_v C.toCxD 2 (C.st l__law_altered._law_signs) (de_lst (da_cons de_str (da_cons de_str (da_cons de_str (da_cons de_str (da_cons de_str (da_cons de_str (da_cons de_str (da_cons de_str (da_cons de_str (da_cons de_str (da_cons de_str (da_cons de_str (da_cons de_str (da_cons de_str (da_cons de_str (da_cons de_str (da_cons de_str (da_cons de_str da_nil)))))))))))))))))))) (dss_cons (ds_parv C.toCxD 3 4 (by decide +kernel) (by decide +kernel) rfl (by decide +kernel) (da_cons (de_callC C.toCxD C__law_draw g__law_altered._law_draw (by decide) (da_v C.toCxD 0 v__law_altered._law_rng (da_cons (de_add (de_lenF C.toCxD g__law_altered.len T.z_len (dv_cons (de_v C.toCxD 1 v__law_altered._law_text_here) dv_nil)) de_int C.toCxD.hK) da_nil))) (da_cons (de_callC C.toCxD C__law_pick g__law_altered._law_pick (by decide) (da_v C.toCxD 0 v__law_altered._law_rng (da_cons (de_v C.toCxD 2 v__law_altered._law_signs) da_nil))) da_nil))) (dss_cons (ds_if (dt_eq (de_callC C.toCxD C__law_draw g__law_altered._law_draw (by decide) (da_v C.toCxD 0 v__law_altered._law_rng (da_cons de_int da_nil))) de_int C.toCxD.u64 C.toCxD.hK) (dss_one (ds_ret (de_sl (de_v C.toCxD 1 v__law_altered._law_text_here) do_none (do_some (de_v C.toCxD 3 v__law_altered._law_at_here)) C.toCxD.hK))) dss_nil) (dss_one (ds_ret (de_add (de_add (de_sl (de_v C.toCxD 1 v__law_altered._law_text_here) do_none (do_some (de_v C.toCxD 3 v__law_altered._law_at_here)) C.toCxD.hK) (de_v C.toCxD 4 v__law_altered._law_sign) C.toCxD.hK) (de_sl (de_v C.toCxD 1 v__law_altered._law_text_here) (do_some (de_add (de_v C.toCxD 3 v__law_altered._law_at_here) (de_callC C.toCxD C__law_draw g__law_altered._law_draw (by decide) (da_v C.toCxD 0 v__law_altered._law_rng (da_cons de_int da_nil))) C.toCxD.hK)) do_none C.toCxD.hK) C.toCxD.hK))))))
theorem ok__law_altered {P : Program} {w : World} {base : Heap} {M : Mx} (T : Tx M w) (Dx : DefAt M "_law_altered" s__law_altered ["_law_rng", "_law_text_here"]) (C__law_pick : Cal P w base M "_law_pick" 2 2 m__law_pick) (C__law_draw : Cal P w base M "_law_draw" 1 2 m__law_draw) : FnOk P w M.K M.mg base (L2.CX P w) 3 Dx.f Dx.fd ["_law_rng", "_law_text_here"] (spD M 2 m__law_altered) := by
  have h : ∀ (cdv : Value) (A : Around) (outer : List Env) (s : Shared) (H : Hp) (E : XK), Room 2 (A.deeper (envOfC "_law_altered" (defScope s__law_altered) s.heap.objs.size Dx.f cdv)) → DSs (cxOf (L2.CX P w) P w M.K M.mg base n__law_altered "_law_altered" (defScope s__law_altered) Dx.f cdv A outer s H E) M (fun cls d _ H' => E cls d H') (defBody s__law_altered) b__law_altered := fun cdv A outer s H E hr => d__law_altered T C__law_pick C__law_draw (cxF_of sc__law_altered hr)
  exact fn_D Dx.fu sc__law_altered h
def cal__law_altered {P : Program} {w : World} {base : Heap} {M : Mx} (T : Tx M w) (Dx : DefAt M "_law_altered" s__law_altered ["_law_rng", "_law_text_here"]) (C__law_pick : Cal P w base M "_law_pick" 2 2 m__law_pick) (C__law_draw : Cal P w base M "_law_draw" 1 2 m__law_draw) : Cal P w base M "_law_altered" 3 2 m__law_altered := Dx.cal (ok__law_altered (P := P) (base := base) T Dx C__law_pick C__law_draw)
abbrev s_char_at : Stmt := topS 17
abbrev n_char_at : List Str := ["text", "position"]
theorem sc_char_at : FnScope n_char_at ["text", "position"] (defScope s_char_at) := ⟨rfl, rfl, rfl, by decide +kernel, rfl, by decide +kernel, by decide +kernel⟩
structure V_char_at : Prop where
  position : NameOk (defScope s_char_at) "position"
  text : NameOk (defScope s_char_at) "text"
theorem v_char_at : V_char_at := ⟨⟨by unfold Vis; decide +kernel, by decide +kernel, by decide +kernel⟩, ⟨by unfold Vis; decide +kernel, by decide +kernel, by decide +kernel⟩⟩
structure G_char_at : Prop where
  len : GlOk (defScope s_char_at) "len"
theorem g_char_at : G_char_at := ⟨⟨by decide +kernel, by decide +kernel, by decide +kernel⟩⟩
def b_char_at : DM Fl := sRet (dIf (fun ρ => (dOp2 ltD (dVar 1) (dCb gLen (vCons (dVar 0) (vNil))) ρ).bind asB) (dOp2 ixD (dVar 0) (dVar 1)) (dC (.str "")))
def m_char_at : SE → R RV := mFn n_char_at.length b_char_at
theorem d_char_at {P : Program} {w : World} {base : Heap} {M : Mx} (T : Tx M w)  {X : Cx} {W : DL.WX} (C : CxF P w base M n_char_at (defScope s_char_at) 0 X W) : DSs X M W (defBody s_char_at) b_char_at :=
  (dss_one (ds_ret (de_if (dt_lt (de_v C.toCxD 1 v_char_at.position) (de_lenF C.toCxD g_char_at.len T.z_len (dv_cons (de_v C.toCxD 0 v_char_at.text) dv_nil))) (de_ix (de_v C.toCxD 0 v_char_at.text) (de_v C.toCxD 1 v_char_at.position) (fun _ _ => rfl) C.toCxD.hK) de_str)))
theorem ok_char_at {P : Program} {w : World} {base : Heap} {M : Mx} (T : Tx M w) (Dx : DefAt M "char_at" s_char_at ["text", "position"])  : FnOk P w M.K M.mg base (L2.CX P w) 1 Dx.f Dx.fd ["text", "position"] (spD M 2 m_char_at) := by
  have h : ∀ (cdv : Value) (A : Around) (outer : List Env) (s : Shared) (H : Hp) (E : XK), Room 0 (A.deeper (envOfC "char_at" (defScope s_char_at) s.heap.objs.size Dx.f cdv)) → DSs (cxOf (L2.CX P w) P w M.K M.mg base n_char_at "char_at" (defScope s_char_at) Dx.f cdv A outer s H E) M (fun cls d _ H' => E cls d H') (defBody s_char_at) b_char_at := fun cdv A outer s H E hr => d_char_at T  (cxF_of sc_char_at hr)
  exact fn_D Dx.fu sc_char_at h
def cal_char_at {P : Program} {w : World} {base : Heap} {M : Mx} (T : Tx M w) (Dx : DefAt M "char_at" s_char_at ["text", "position"])  : Cal P w base M "char_at" 1 2 m_char_at := Dx.cal (ok_char_at (P := P) (base := base) T Dx )
abbrev s_scan_exact : Stmt := topS 18
abbrev n_scan_exact : List Str := ["text", "position", "wanted", "char"]
theorem sc_scan_exact : FnScope n_scan_exact ["text", "position", "wanted"] (defScope s_scan_exact) := ⟨rfl, rfl, rfl, by decide +kernel, rfl, by decide +kernel, by decide +kernel⟩
structure V_scan_exact : Prop where
  wanted : NameOk (defScope s_scan_exact) "wanted"
  position : NameOk (defScope s_scan_exact) "position"
  text : NameOk (defScope s_scan_exact) "text"
  char : NameOk (defScope s_scan_exact) "char"
theorem v_scan_exact : V_scan_exact := ⟨⟨by unfold Vis; decide +kernel, by decide +kernel, by decide +kernel⟩, ⟨by unfold Vis; decide +kernel, by decide +kernel, by decide +kernel⟩, ⟨by unfold Vis; decide +kernel, by decide +kernel, by decide +kernel⟩, ⟨by unfold Vis; decide +kernel, by decide +kernel, by decide +kernel⟩⟩
structure L_scan_exact : Prop where
  char : L2.Loc (defScope s_scan_exact) "char"
  position : L2.Loc (defScope s_scan_exact) "position"
theorem l_scan_exact : L_scan_exact := ⟨by unfold L2.Loc; decide +kernel, by unfold L2.Loc; decide +kernel⟩
structure G_scan_exact : Prop where
  char_at : GlOk (defScope s_scan_exact) "char_at"
  InvalidText : GlOk (defScope s_scan_exact) "InvalidText"
theorem g_scan_exact : G_scan_exact := ⟨⟨by decide +kernel, by decide +kernel, by decide +kernel⟩, ⟨by decide +kernel, by decide +kernel, by decide +kernel⟩⟩
def b_scan_exact : DM Fl := sSeq (sFor (iSeq (dVar 2)) (tgName 3) (sSeq (sIf (fun ρ => (dOp2 neD (dCall 2 [] m_char_at (aCons (dVar 0) (aCons (dVar 1) (aNil)))) (dVar 3) ρ).bind asB) (sRaise1 "InvalidText" "InvalidText" "position" (dVar 1)) (sPass)) (sAug 1 addI (dC (.int 1))))) (sRet (dVar 1))
def m_scan_exact : SE → R RV := mFn n_scan_exact.length b_scan_exact
theorem d_scan_exact {P : Program} {w : World} {base : Heap} {M : Mx} (T : Tx M w) (C_char_at : Cal P w base M "char_at" 1 2 m_char_at) {X : Cx} {W : DL.WX} (C : CxF P w base M n_scan_exact (defScope s_scan_exact) 2 X W) : DSs X M W (defBody s_scan_exact) b_scan_exact :=
  (dss_cons (ds_for C.ps C.cm (di_seq (de_v C.toCxD 2 v_scan_exact.wanted) C.toCxD.hK) (dg_v C.toCxD 3 (C.st l_scan_exact.char)) (dss_cons (ds_if (dt_ne (de_callC C.toCxD C_char_at g_scan_exact.char_at (by decide) (da_cons (de_v C.toCxD 0 v_scan_exact.text) (da_cons (de_v C.toCxD 1 v_scan_exact.position) da_nil))) (de_v C.toCxD 3 v_scan_exact.char) C.toCxD.u64 C.toCxD.hK) (dss_one (ds_raise1 C.toCxD T.x_InvalidText g_scan_exact.InvalidText (by decide) (de_v C.toCxD 1 v_scan_exact.position))) dss_nil) (dss_one (ds_addv C.toCxD 1 (C.st l_scan_exact.position) de_int)))) (dss_one (ds_ret (de_v C.toCxD 1 v_scan_exact.position))))
theorem ok_scan_exact {P : Program} {w : World} {base : Heap} {M : Mx} (T : Tx M w) (Dx : DefAt M "scan_exact" s_scan_exact ["text", "position", "wanted"]) (C_char_at : Cal P w base M "char_at" 1 2 m_char_at) : FnOk P w M.K M.mg base (L2.CX P w) 3 Dx.f Dx.fd ["text", "position", "wanted"] (spD M 3 m_scan_exact) := by
  have h : ∀ (cdv : Value) (A : Around) (outer : List Env) (s : Shared) (H : Hp) (E : XK), Room 2 (A.deeper (envOfC "scan_exact" (defScope s_scan_exact) s.heap.objs.size Dx.f cdv)) → DSs (cxOf (L2.CX P w) P w M.K M.mg base n_scan_exact "scan_exact" (defScope s_scan_exact) Dx.f cdv A outer s H E) M (fun cls d _ H' => E cls d H') (defBody s_scan_exact) b_scan_exact := fun cdv A outer s H E hr => d_scan_exact T C_char_at (cxF_of sc_scan_exact hr)
  exact fn_D Dx.fu sc_scan_exact h
def cal_scan_exact {P : Program} {w : World} {base : Heap} {M : Mx} (T : Tx M w) (Dx : DefAt M "scan_exact" s_scan_exact ["text", "position", "wanted"]) (C_char_at : Cal P w base M "char_at" 1 2 m_char_at) : Cal P w base M "scan_exact" 3 3 m_scan_exact := Dx.cal (ok_scan_exact (P := P) (base := base) T Dx C_char_at)
abbrev s_parse_pair : Stmt := topS 22
abbrev n_parse_pair : List Str := ["text", "position", "level", "first", "operator", "second"]
theorem sc_parse_pair : FnScope n_parse_pair ["text", "position", "level"] (defScope s_parse_pair) := ⟨rfl, rfl, rfl, by decide +kernel, rfl, by decide +kernel, by decide +kernel⟩
structure V_parse_pair : Prop where
  level : NameOk (defScope s_parse_pair) "level"
  position : NameOk (defScope s_parse_pair) "position"
  text : NameOk (defScope s_parse_pair) "text"
  operator : NameOk (defScope s_parse_pair) "operator"
  second : NameOk (defScope s_parse_pair) "second"
  first : NameOk (defScope s_parse_pair) "first"
theorem v_parse_pair : V_parse_pair := ⟨⟨by unfold Vis; decide +kernel, by decide +kernel, by decide +kernel⟩, ⟨by unfold Vis; decide +kernel, by decide +kernel, by decide +kernel⟩, ⟨by unfold Vis; decide +kernel, by decide +kernel, by decide +kernel⟩, ⟨by unfold Vis; decide +kernel, by decide +kernel, by decide +kernel⟩, ⟨by unfold Vis; decide +kernel, by decide +kernel, by decide +kernel⟩, ⟨by unfold Vis; decide +kernel, by decide +kernel, by decide +kernel⟩⟩
structure L_parse_pair : Prop where
  position : L2.Loc (defScope s_parse_pair) "position"
  first : L2.Loc (defScope s_parse_pair) "first"
  operator : L2.Loc (defScope s_parse_pair) "operator"
  second : L2.Loc (defScope s_parse_pair) "second"
theorem l_parse_pair : L_parse_pair := ⟨by unfold L2.Loc; decide +kernel, by unfold L2.Loc; decide +kernel, by unfold L2.Loc; decide +kernel, by unfold L2.Loc; decide +kernel⟩
structure G_parse_pair : Prop where
  parse_part : GlOk (defScope s_parse_pair) "parse_part"
  scan_exact : GlOk (defScope s_parse_pair) "scan_exact"
  char_at : GlOk (defScope s_parse_pair) "char_at"
  InvalidText : GlOk (defScope s_parse_pair) "InvalidText"
theorem g_parse_pair : G_parse_pair := ⟨⟨by decide +kernel, by decide +kernel, by decide +kernel⟩, ⟨by decide +kernel, by decide +kernel, by decide +kernel⟩, ⟨by decide +kernel, by decide +kernel, by decide +kernel⟩, ⟨by decide +kernel, by decide +kernel, by decide +kernel⟩⟩
def b_parse_pair (m : SE → R RV) : DM Fl := sSeq (sAsg (tgTup 2 (tgCons (tgName 3) (tgCons (tgName 1) (tgNil)))) (dCall 3 [] m (aCons (dVar 0) (aCons (dVar 1) (aCons (dVar 2) (aNil)))))) (sSeq (sSet 1 (dCall 3 [] m_scan_exact (aCons (dVar 0) (aCons (dVar 1) (aCons (dC (.str " ")) (aNil)))))) (sSeq (sSet 4 (dXGet2 (dDisp (pCons (dC (.str "+")) (dC (.str "add")) (pCons (dC (.str "-")) (dC (.str "subtract")) (pNil)))) (aCons (dCall 2 [] m_char_at (aCons (dVar 0) (aCons (dVar 1) (aNil)))) (aCons (dC (.str "")) (aNil))))) (sSeq (sIf (fun ρ => (dOp2 eqD (dVar 4) (dC (.str "")) ρ).bind asB) (sRaise1 "InvalidText" "InvalidText" "position" (dVar 1)) (sPass)) (sSeq (sSet 1 (dCall 3 [] m_scan_exact (aCons (dVar 0) (aCons (dOp2 addD (dVar 1) (dC (.int 1))) (aCons (dC (.str " ")) (aNil)))))) (sSeq (sAsg (tgTup 2 (tgCons (tgName 5) (tgCons (tgName 1) (tgNil)))) (dCall 3 [] m (aCons (dVar 0) (aCons (dVar 1) (aCons (dVar 2) (aNil)))))) (sRet (dTup (aCons (dTup (aCons (dVar 4) (aCons (dVar 3) (aCons (dVar 5) (aNil))))) (aCons (dCall 3 [] m_scan_exact (aCons (dVar 0) (aCons (dVar 1) (aCons (dC (.str ")")) (aNil))))) (aNil))))))))))
def m_parse_pair (m : SE → R RV) : SE → R RV := mFn n_parse_pair.length (b_parse_pair m)
theorem d_parse_pair {P : Program} {w : World} {base : Heap} {M : Mx} (T : Tx M w) (C_scan_exact : Cal P w base M "scan_exact" 3 3 m_scan_exact) (C_char_at : Cal P w base M "char_at" 1 2 m_char_at) (k : Nat) (hk : 3 ≤ k) (m : SE → R RV) (C_parse_part : Cal P w base M "parse_part" k 3 m) {X : Cx} {W : DL.WX} (C : CxF P w base M n_parse_pair (defScope s_parse_pair) (k + 0) X W) : DSs X M W (defBody s_parse_pair) (b_parse_pair m) :=
  (dss_cons (ds_asg (de_callC C.toCxD C_parse_part g_parse_pair.parse_part (by omega) (da_cons (de_v C.toCxD 0 v_parse_pair.text) (da_cons (de_v C.toCxD 1 v_parse_pair.position) (da_cons (de_v C.toCxD 2 v_parse_pair.level) da_nil)))) (dg_tup C.toCxD.cm (dgs_cons (dg_v C.toCxD 3 (C.st l_parse_pair.first)) (dgs_cons (dg_v C.toCxD 1 (C.st l_parse_pair.position)) dgs_nil)) rfl rfl C.toCxD.hK)) (dss_cons (ds_v C.toCxD 1 (C.st l_parse_pair.position) (de_callC C.toCxD C_scan_exact g_parse_pair.scan_exact (by omega) (da_cons (de_v C.toCxD 0 v_parse_pair.text) (da_cons (de_v C.toCxD 1 v_parse_pair.position) (da_cons de_str da_nil))))) (dss_cons (ds_v C.toCxD 4 (C.st l_parse_pair.operator) (de_xget2 C.toCxD T.hw (de_xdisp C.toCxD T.hw (dps_cons de_str de_str (dps_cons de_str de_str dps_nil))) (da_cons (de_callC C.toCxD C_char_at g_parse_pair.char_at (by omega) (da_cons (de_v C.toCxD 0 v_parse_pair.text) (da_cons (de_v C.toCxD 1 v_parse_pair.position) da_nil))) (da_cons de_str da_nil)))) (dss_cons (ds_if (dt_eq (de_v C.toCxD 4 v_parse_pair.operator) de_str C.toCxD.u64 C.toCxD.hK) (dss_one (ds_raise1 C.toCxD T.x_InvalidText g_parse_pair.InvalidText (by omega) (de_v C.toCxD 1 v_parse_pair.position))) dss_nil) (dss_cons (ds_v C.toCxD 1 (C.st l_parse_pair.position) (de_callC C.toCxD C_scan_exact g_parse_pair.scan_exact (by omega) (da_cons (de_v C.toCxD 0 v_parse_pair.text) (da_cons (de_add (de_v C.toCxD 1 v_parse_pair.position) de_int C.toCxD.hK) (da_cons de_str da_nil))))) (dss_cons (ds_asg (de_callC C.toCxD C_parse_part g_parse_pair.parse_part (by omega) (da_cons (de_v C.toCxD 0 v_parse_pair.text) (da_cons (de_v C.toCxD 1 v_parse_pair.position) (da_cons (de_v C.toCxD 2 v_parse_pair.level) da_nil)))) (dg_tup C.toCxD.cm (dgs_cons (dg_v C.toCxD 5 (C.st l_parse_pair.second)) (dgs_cons (dg_v C.toCxD 1 (C.st l_parse_pair.position)) dgs_nil)) rfl rfl C.toCxD.hK)) (dss_one (ds_ret (de_tup (da_cons (de_tup (da_cons (de_v C.toCxD 4 v_parse_pair.operator) (da_cons (de_v C.toCxD 3 v_parse_pair.first) (da_cons (de_v C.toCxD 5 v_parse_pair.second) da_nil)))) (da_cons (de_callC C.toCxD C_scan_exact g_parse_pair.scan_exact (by omega) (da_cons (de_v C.toCxD 0 v_parse_pair.text) (da_cons (de_v C.toCxD 1 v_parse_pair.position) (da_cons de_str da_nil)))) da_nil)))))))))))
theorem ok_parse_pair {P : Program} {w : World} {base : Heap} {M : Mx} (T : Tx M w) (Dx : DefAt M "parse_pair" s_parse_pair ["text", "position", "level"]) (C_scan_exact : Cal P w base M "scan_exact" 3 3 m_scan_exact) (C_char_at : Cal P w base M "char_at" 1 2 m_char_at) (k : Nat) (hk : 3 ≤ k) (m : SE → R RV) (C_parse_part : Cal P w base M "parse_part" k 3 m) : FnOk P w M.K M.mg base (L2.CX P w) (k + 1) Dx.f Dx.fd ["text", "position", "level"] (spD M 3 (m_parse_pair m)) := by
  have h : ∀ (cdv : Value) (A : Around) (outer : List Env) (s : Shared) (H : Hp) (E : XK), Room (k + 0) (A.deeper (envOfC "parse_pair" (defScope s_parse_pair) s.heap.objs.size Dx.f cdv)) → DSs (cxOf (L2.CX P w) P w M.K M.mg base n_parse_pair "parse_pair" (defScope s_parse_pair) Dx.f cdv A outer s H E) M (fun cls d _ H' => E cls d H') (defBody s_parse_pair) (b_parse_pair m) := fun cdv A outer s H E hr => d_parse_pair T C_scan_exact C_char_at k hk m C_parse_part (cxF_of sc_parse_pair hr)
  exact fn_D Dx.fu sc_parse_pair h
def cal_parse_pair {P : Program} {w : World} {base : Heap} {M : Mx} (T : Tx M w) (Dx : DefAt M "parse_pair" s_parse_pair ["text", "position", "level"]) (C_scan_exact : Cal P w base M "scan_exact" 3 3 m_scan_exact) (C_char_at : Cal P w base M "char_at" 1 2 m_char_at) (k : Nat) (hk : 3 ≤ k) (m : SE → R RV) (C_parse_part : Cal P w base M "parse_part" k 3 m) : Cal P w base M "parse_pair" (k + 1) 3 (m_parse_pair m) := Dx.cal (ok_parse_pair (P := P) (base := base) T Dx C_scan_exact C_char_at k hk m C_parse_part)
abbrev s_is_name : Stmt := topS 16
abbrev n_is_name : List Str := ["text", "good", "char"]
theorem sc_is_name : FnScope n_is_name ["text"] (defScope s_is_name) := ⟨rfl, rfl, rfl, by decide +kernel, rfl, by decide +kernel, by decide +kernel⟩
structure V_is_name : Prop where
  text : NameOk (defScope s_is_name) "text"
  good : NameOk (defScope s_is_name) "good"
theorem v_is_name : V_is_name := ⟨⟨by unfold Vis; decide +kernel, by decide +kernel, by decide +kernel⟩, ⟨by unfold Vis; decide +kernel, by decide +kernel, by decide +kernel⟩⟩
structure L_is_name : Prop where
  good : L2.Loc (defScope s_is_name) "good"
theorem l_is_name : L_is_name := ⟨by unfold L2.Loc; decide +kernel⟩
structure G_is_name : Prop where
  MIN_NAME : GlOk (defScope s_is_name) "MIN_NAME"
  len : GlOk (defScope s_is_name) "len"
  MAX_NAME : GlOk (defScope s_is_name) "MAX_NAME"
  WORDS : GlOk (defScope s_is_name) "WORDS"
  all : GlOk (defScope s_is_name) "all"
theorem g_is_name : G_is_name := ⟨⟨by decide +kernel, by decide +kernel, by decide +kernel⟩, ⟨by decide +kernel, by decide +kernel, by decide +kernel⟩, ⟨by decide +kernel, by decide +kernel, by decide +kernel⟩, ⟨by decide +kernel, by decide +kernel, by decide +kernel⟩, ⟨by decide +kernel, by decide +kernel, by decide +kernel⟩⟩
def b_is_name : DM Fl := sSeq (sSet 1 (dAnd (dChain leD leD (dC c_MIN_NAME) (dCb gLen (vCons (dVar 0) (vNil))) (dC c_MAX_NAME)) (dOp1 (inKD true ks_WORDS) (dVar 0)))) (sRet (dAnd (dVar 1) (dCb gAll (vCons (dLc [2] (iSeq (dVar 0)) (tgName 2) (tYesD) (dOp2 (inD false) (dVar 2) (dC c_LETTERS))) (vNil)))))
def m_is_name : SE → R RV := mFn n_is_name.length b_is_name
theorem d_is_name {P : Program} {w : World} {base : Heap} {M : Mx} (T : Tx M w)  {X : Cx} {W : DL.WX} (C : CxF P w base M n_is_name (defScope s_is_name) 0 X W) : DSs X M W (defBody s_is_name) b_is_name :=
  (dss_cons (ds_v C.toCxD 1 (C.st l_is_name.good) (de_and (de_chain op_le op_le o2_le o2_le (de_k C.toCxD g_is_name.MIN_NAME T.k_MIN_NAME) (de_lenF C.toCxD g_is_name.len T.z_len (dv_cons (de_v C.toCxD 0 v_is_name.text) dv_nil)) (de_k C.toCxD g_is_name.MAX_NAME T.k_MAX_NAME) (fun ta tb tc p q r => pe_chain op_le op_le p q r)) (de_one (de_notInK C.toCxD g_is_name.WORDS T.d_WORDS (de_v C.toCxD 0 v_is_name.text))))) (dss_one (ds_ret (de_and (de_v C.toCxD 1 v_is_name.good) (de_one (de_allF C.toCxD g_is_name.all T.z_all (dv_cons (de_lcF C.toCxD [("char", 2)] (blkOk_by (by decide +kernel)) tgName_ex (di_seq (de_v C.toCxD 0 v_is_name.text) C.toCxD.hK) (fun _ _ _ _ _ => (dg_v (C.toCxD.blk rfl _ _ _ _ _) 2 ((C.toCxD.blk rfl _ _ _ _ _).stl (by decide +kernel)))) (fun _ _ _ _ _ => dts_nil) (fun _ _ _ _ _ => (de_in (de_v (C.toCxD.blk rfl _ _ _ _ _) 2 ⟨by unfold Vis; decide +kernel, by decide +kernel, by decide +kernel⟩) (de_k (C.toCxD.blk rfl _ _ _ _ _) ⟨by decide +kernel, by decide +kernel, by decide +kernel⟩ T.k_LETTERS) (C.toCxD.blk rfl _ _ _ _ _).u65 rfl (C.toCxD.blk rfl _ _ _ _ _).hK))) dv_nil)))))))
theorem ok_is_name {P : Program} {w : World} {base : Heap} {M : Mx} (T : Tx M w) (Dx : DefAt M "is_name" s_is_name ["text"])  : FnOk P w M.K M.mg base (L2.CX P w) 1 Dx.f Dx.fd ["text"] (spD M 1 m_is_name) := by
  have h : ∀ (cdv : Value) (A : Around) (outer : List Env) (s : Shared) (H : Hp) (E : XK), Room 0 (A.deeper (envOfC "is_name" (defScope s_is_name) s.heap.objs.size Dx.f cdv)) → DSs (cxOf (L2.CX P w) P w M.K M.mg base n_is_name "is_name" (defScope s_is_name) Dx.f cdv A outer s H E) M (fun cls d _ H' => E cls d H') (defBody s_is_name) b_is_name := fun cdv A outer s H E hr => d_is_name T  (cxF_of sc_is_name hr)
  exact fn_D Dx.fu sc_is_name h
def cal_is_name {P : Program} {w : World} {base : Heap} {M : Mx} (T : Tx M w) (Dx : DefAt M "is_name" s_is_name ["text"])  : Cal P w base M "is_name" 1 1 m_is_name := Dx.cal (ok_is_name (P := P) (base := base) T Dx )
abbrev s_parse_word : Stmt := topS 23
abbrev n_parse_word : List Str := ["text", "position", "level", "end", "word", "first", "result", "second"]
theorem sc_parse_word : FnScope n_parse_word ["text", "position", "level"] (defScope s_parse_word) := ⟨rfl, rfl, rfl, by decide +kernel, rfl, by decide +kernel, by decide +kernel⟩
structure V_parse_word : Prop where
  position : NameOk (defScope s_parse_word) "position"
  «end» : NameOk (defScope s_parse_word) "end"
  text : NameOk (defScope s_parse_word) "text"
  word : NameOk (defScope s_parse_word) "word"
  level : NameOk (defScope s_parse_word) "level"
  first : NameOk (defScope s_parse_word) "first"
  result : NameOk (defScope s_parse_word) "result"
  second : NameOk (defScope s_parse_word) "second"
theorem v_parse_word : V_parse_word := ⟨⟨by unfold Vis; decide +kernel, by decide +kernel, by decide +kernel⟩, ⟨by unfold Vis; decide +kernel, by decide +kernel, by decide +kernel⟩, ⟨by unfold Vis; decide +kernel, by decide +kernel, by decide +kernel⟩, ⟨by unfold Vis; decide +kernel, by decide +kernel, by decide +kernel⟩, ⟨by unfold Vis; decide +kernel, by decide +kernel, by decide +kernel⟩, ⟨by unfold Vis; decide +kernel, by decide +kernel, by decide +kernel⟩, ⟨by unfold Vis; decide +kernel, by decide +kernel, by decide +kernel⟩, ⟨by unfold Vis; decide +kernel, by decide +kernel, by decide +kernel⟩⟩
structure L_parse_word : Prop where
  «end» : L2.Loc (defScope s_parse_word) "end"
  word : L2.Loc (defScope s_parse_word) "word"
  first : L2.Loc (defScope s_parse_word) "first"
  result : L2.Loc (defScope s_parse_word) "result"
  second : L2.Loc (defScope s_parse_word) "second"
theorem l_parse_word : L_parse_word := ⟨by unfold L2.Loc; decide +kernel, by unfold L2.Loc; decide +kernel, by unfold L2.Loc; decide +kernel, by unfold L2.Loc; decide +kernel, by unfold L2.Loc; decide +kernel⟩
structure G_parse_word : Prop where
  char_at : GlOk (defScope s_parse_word) "char_at"
  LETTERS : GlOk (defScope s_parse_word) "LETTERS"
  VARIABLE : GlOk (defScope s_parse_word) "VARIABLE"
  WORDS : GlOk (defScope s_parse_word) "WORDS"
  is_name : GlOk (defScope s_parse_word) "is_name"
  InvalidText : GlOk (defScope s_parse_word) "InvalidText"
  scan_exact : GlOk (defScope s_parse_word) "scan_exact"
  parse_part : GlOk (defScope s_parse_word) "parse_part"
theorem g_parse_word : G_parse_word := ⟨⟨by decide +kernel, by decide +kernel, by decide +kernel⟩, ⟨by decide +kernel, by decide +kernel, by decide +kernel⟩, ⟨by decide +kernel, by decide +kernel, by decide +kernel⟩, ⟨by decide +kernel, by decide +kernel, by decide +kernel⟩, ⟨by decide +kernel, by decide +kernel, by decide +kernel⟩, ⟨by decide +kernel, by decide +kernel, by decide +kernel⟩, ⟨by decide +kernel, by decide +kernel, by decide +kernel⟩, ⟨by decide +kernel, by decide +kernel, by decide +kernel⟩⟩
def b_parse_word (m : SE → R RV) : DM Fl := sSeq (sSet 3 (dVar 1)) (sSeq (sWhile (dAndT (fun ρ => (dOp2 neD (dCall 2 [] m_char_at (aCons (dVar 0) (aCons (dVar 3) (aNil)))) (dC (.str "")) ρ).bind asB) (fun ρ => (dOp2 (inD false) (dCall 2 [] m_char_at (aCons (dVar 0) (aCons (dVar 3) (aNil)))) (dC c_LETTERS) ρ).bind asB)) (sAug 3 addI (dC (.int 1)))) (sSeq (sSet 4 (dSl (dVar 0) (oSome (dVar 1)) (oSome (dVar 3)))) (sSeq (sIf (fun ρ => (dOp2 eqD (dVar 4) (dC c_VARIABLE) ρ).bind asB) (sRet (dTup (aCons (dTup (aCons (dC (.str "x")) (aNil))) (aCons (dVar 3) (aNil))))) (sPass)) (sSeq (sIf (dAndT (fun ρ => (dOp1 (inKD true ks_WORDS) (dVar 4) ρ).bind asB) (dNotT (fun ρ => ((dCall 1 [] m_is_name (aCons (dVar 4) (aNil))) ρ).bind asB))) (sRaise1 "InvalidText" "InvalidText" "position" (dVar 1)) (sPass)) (sSeq (sAsg (tgTup 2 (tgCons (tgName 5) (tgCons (tgName 3) (tgNil)))) (dCall 3 [] m (aCons (dVar 0) (aCons (dCall 3 [] m_scan_exact (aCons (dVar 0) (aCons (dVar 3) (aCons (dC (.str "(")) (aNil))))) (aCons (dVar 2) (aNil)))))) (sSeq (sIf (fun ρ => (dOp2 eqD (dKGet kv_WORDS (aCons (dVar 4) (aCons (dC (.int 1)) (aNil)))) (dC (.int 1)) ρ).bind asB) (sSeq (sSet 6 (dIf (fun ρ => (dOp2 eqD (dVar 4) (dC (.str "abs")) ρ).bind asB) (dTup (aCons (dC (.str "abs")) (aCons (dVar 5) (aNil)))) (dTup (aCons (dC (.str "call")) (aCons (dVar 4) (aCons (dVar 5) (aNil))))))) (sRet (dTup (aCons (dVar 6) (aCons (dCall 3 [] m_scan_exact (aCons (dVar 0) (aCons (dVar 3) (aCons (dC (.str ")")) (aNil))))) (aNil)))))) (sPass)) (sSeq (sAsg (tgTup 2 (tgCons (tgName 7) (tgCons (tgName 3) (tgNil)))) (dCall 3 [] m (aCons (dVar 0) (aCons (dCall 3 [] m_scan_exact (aCons (dVar 0) (aCons (dVar 3) (aCons (dC (.str ", ")) (aNil))))) (aCons (dVar 2) (aNil)))))) (sRet (dTup (aCons (dTup (aCons (dVar 4) (aCons (dVar 5) (aCons (dVar 7) (aNil))))) (aCons (dCall 3 [] m_scan_exact (aCons (dVar 0) (aCons (dVar 3) (aCons (dC (.str ")")) (aNil))))) (aNil))))))))))))
def m_parse_word (m : SE → R RV) : SE → R RV := mFn n_parse_word.length (b_parse_word m)
theorem d_parse_word {P : Program} {w : World} {base : Heap} {M : Mx} (T : Tx M w) (C_char_at : Cal P w base M "char_at" 1 2 m_char_at) (C_is_name : Cal P w base M "is_name" 1 1 m_is_name) (C_scan_exact : Cal P w base M "scan_exact" 3 3 m_scan_exact) (k : Nat) (hk : 3 ≤ k) (m : SE → R RV) (C_parse_part : Cal P w base M "parse_part" k 3 m) {X : Cx} {W : DL.WX} (C : CxF P w base M n_parse_word (defScope s_parse_word) (k + 0) X W) : DSs X M W (defBody s_parse_word) (b_parse_word m) :=
  (dss_cons (ds_v C.toCxD 3 (C.st l_parse_word.«end») (de_v C.toCxD 1 v_parse_word.position)) (dss_cons (ds_while C.ps (dt_w (dw_and (dt_ne (de_callC C.toCxD C_char_at g_parse_word.char_at (by omega) (da_cons (de_v C.toCxD 0 v_parse_word.text) (da_cons (de_v C.toCxD 3 v_parse_word.«end») da_nil))) de_str C.toCxD.u64 C.toCxD.hK) (dw_and1 (dt_in (de_callC C.toCxD C_char_at g_parse_word.char_at (by omega) (da_cons (de_v C.toCxD 0 v_parse_word.text) (da_cons (de_v C.toCxD 3 v_parse_word.«end») da_nil))) (de_k C.toCxD g_parse_word.LETTERS T.k_LETTERS) C.toCxD.u65 rfl C.toCxD.hK)))) (dss_one (ds_addv C.toCxD 3 (C.st l_parse_word.«end») de_int))) (dss_cons (ds_v C.toCxD 4 (C.st l_parse_word.word) (de_sl (de_v C.toCxD 0 v_parse_word.text) (do_some (de_v C.toCxD 1 v_parse_word.position)) (do_some (de_v C.toCxD 3 v_parse_word.«end»)) C.toCxD.hK)) (dss_cons (ds_if (dt_eq (de_v C.toCxD 4 v_parse_word.word) (de_k C.toCxD g_parse_word.VARIABLE T.k_VARIABLE) C.toCxD.u64 C.toCxD.hK) (dss_one (ds_ret (de_tup (da_cons (de_tup (da_cons de_str da_nil)) (da_cons (de_v C.toCxD 3 v_parse_word.«end») da_nil))))) dss_nil) (dss_cons (ds_if (dt_w (dw_and (dt_notInK C.toCxD g_parse_word.WORDS T.d_WORDS (de_v C.toCxD 4 v_parse_word.word)) (dw_and1 (dt_not (dt_val (de_callC C.toCxD C_is_name g_parse_word.is_name (by omega) (da_cons (de_v C.toCxD 4 v_parse_word.word) da_nil))))))) (dss_one (ds_raise1 C.toCxD T.x_InvalidText g_parse_word.InvalidText (by omega) (de_v C.toCxD 1 v_parse_word.position))) dss_nil) (dss_cons (ds_asg (de_callC C.toCxD C_parse_part g_parse_word.parse_part (by omega) (da_cons (de_v C.toCxD 0 v_parse_word.text) (da_cons (de_callC C.toCxD C_scan_exact g_parse_word.scan_exact (by omega) (da_cons (de_v C.toCxD 0 v_parse_word.text) (da_cons (de_v C.toCxD 3 v_parse_word.«end») (da_cons de_str da_nil)))) (da_cons (de_v C.toCxD 2 v_parse_word.level) da_nil)))) (dg_tup C.toCxD.cm (dgs_cons (dg_v C.toCxD 5 (C.st l_parse_word.first)) (dgs_cons (dg_v C.toCxD 3 (C.st l_parse_word.«end»)) dgs_nil)) rfl rfl C.toCxD.hK)) (dss_cons (ds_if (dt_eq (de_kget C.toCxD g_parse_word.WORDS T.v_WORDS (da_cons (de_v C.toCxD 4 v_parse_word.word) (da_cons de_int da_nil))) de_int C.toCxD.u64 C.toCxD.hK) (dss_cons (ds_v C.toCxD 6 (C.st l_parse_word.result) (de_if (dt_eq (de_v C.toCxD 4 v_parse_word.word) de_str C.toCxD.u64 C.toCxD.hK) (de_tup (da_cons de_str (da_cons (de_v C.toCxD 5 v_parse_word.first) da_nil))) (de_tup (da_cons de_str (da_cons (de_v C.toCxD 4 v_parse_word.word) (da_cons (de_v C.toCxD 5 v_parse_word.first) da_nil)))))) (dss_one (ds_ret (de_tup (da_cons (de_v C.toCxD 6 v_parse_word.result) (da_cons (de_callC C.toCxD C_scan_exact g_parse_word.scan_exact (by omega) (da_cons (de_v C.toCxD 0 v_parse_word.text) (da_cons (de_v C.toCxD 3 v_parse_word.«end») (da_cons de_str da_nil)))) da_nil)))))) dss_nil) (dss_cons (ds_asg (de_callC C.toCxD C_parse_part g_parse_word.parse_part (by omega) (da_cons (de_v C.toCxD 0 v_parse_word.text) (da_cons (de_callC C.toCxD C_scan_exact g_parse_word.scan_exact (by omega) (da_cons (de_v C.toCxD 0 v_parse_word.text) (da_cons (de_v C.toCxD 3 v_parse_word.«end») (da_cons de_str da_nil)))) (da_cons (de_v C.toCxD 2 v_parse_word.level) da_nil)))) (dg_tup C.toCxD.cm (dgs_cons (dg_v C.toCxD 7 (C.st l_parse_word.second)) (dgs_cons (dg_v C.toCxD 3 (C.st l_parse_word.«end»)) dgs_nil)) rfl rfl C.toCxD.hK)) (dss_one (ds_ret (de_tup (da_cons (de_tup (da_cons (de_v C.toCxD 4 v_parse_word.word) (da_cons (de_v C.toCxD 5 v_parse_word.first) (da_cons (de_v C.toCxD 7 v_parse_word.second) da_nil)))) (da_cons (de_callC C.toCxD C_scan_exact g_parse_word.scan_exact (by omega) (da_cons (de_v C.toCxD 0 v_parse_word.text) (da_cons (de_v C.toCxD 3 v_parse_word.«end») (da_cons de_str da_nil)))) da_nil)))))))))))))
theorem ok_parse_word {P : Program} {w : World} {base : Heap} {M : Mx} (T : Tx M w) (Dx : DefAt M "parse_word" s_parse_word ["text", "position", "level"]) (C_char_at : Cal P w base M "char_at" 1 2 m_char_at) (C_is_name : Cal P w base M "is_name" 1 1 m_is_name) (C_scan_exact : Cal P w base M "scan_exact" 3 3 m_scan_exact) (k : Nat) (hk : 3 ≤ k) (m : SE → R RV) (C_parse_part : Cal P w base M "parse_part" k 3 m) : FnOk P w M.K M.mg base (L2.CX P w) (k + 1) Dx.f Dx.fd ["text", "position", "level"] (spD M 3 (m_parse_word m)) := by
  have h : ∀ (cdv : Value) (A : Around) (outer : List Env) (s : Shared) (H : Hp) (E : XK), Room (k + 0) (A.deeper (envOfC "parse_word" (defScope s_parse_word) s.heap.objs.size Dx.f cdv)) → DSs (cxOf (L2.CX P w) P w M.K M.mg base n_parse_word "parse_word" (defScope s_parse_word) Dx.f cdv A outer s H E) M (fun cls d _ H' => E cls d H') (defBody s_parse_word) (b_parse_word m) := fun cdv A outer s H E hr => d_parse_word T C_char_at C_is_name C_scan_exact k hk m C_parse_part (cxF_of sc_parse_word hr)
  exact fn_D Dx.fu sc_parse_word h
def cal_parse_word {P : Program} {w : World} {base : Heap} {M : Mx} (T : Tx M w) (Dx : DefAt M "parse_word" s_parse_word ["text", "position", "level"]) (C_char_at : Cal P w base M "char_at" 1 2 m_char_at) (C_is_name : Cal P w base M "is_name" 1 1 m_is_name) (C_scan_exact : Cal P w base M "scan_exact" 3 3 m_scan_exact) (k : Nat) (hk : 3 ≤ k) (m : SE → R RV) (C_parse_part : Cal P w base M "parse_part" k 3 m) : Cal P w base M "parse_word" (k + 1) 3 (m_parse_word m) := Dx.cal (ok_parse_word (P := P) (base := base) T Dx C_char_at C_is_name C_scan_exact k hk m C_parse_part)
abbrev s_is_decimal : Stmt := topS 19
abbrev n_is_decimal : List Str := ["char"]
theorem sc_is_decimal : FnScope n_is_decimal ["char"] (defScope s_is_decimal) := ⟨rfl, rfl, rfl, by decide +kernel, rfl, by decide +kernel, by decide +kernel⟩
structure V_is_decimal : Prop where
  char : NameOk (defScope s_is_decimal) "char"
theorem v_is_decimal : V_is_decimal := ⟨⟨by unfold Vis; decide +kernel, by decide +kernel, by decide +kernel⟩⟩
structure G_is_decimal : Prop where
  DECIMALS : GlOk (defScope s_is_decimal) "DECIMALS"
theorem g_is_decimal : G_is_decimal := ⟨⟨by decide +kernel, by decide +kernel, by decide +kernel⟩⟩
def b_is_decimal : DM Fl := sRet (dAnd (dOp2 neD (dVar 0) (dC (.str ""))) (dOp2 (inD false) (dVar 0) (dC c_DECIMALS)))
def m_is_decimal : SE → R RV := mFn n_is_decimal.length b_is_decimal
theorem d_is_decimal {P : Program} {w : World} {base : Heap} {M : Mx} (T : Tx M w)  {X : Cx} {W : DL.WX} (C : CxF P w base M n_is_decimal (defScope s_is_decimal) 0 X W) : DSs X M W (defBody s_is_decimal) b_is_decimal :=
  (dss_one (ds_ret (de_and (de_ne (de_v C.toCxD 0 v_is_decimal.char) de_str C.toCxD.u64 C.toCxD.hK) (de_one (de_in (de_v C.toCxD 0 v_is_decimal.char) (de_k C.toCxD g_is_decimal.DECIMALS T.k_DECIMALS) C.toCxD.u65 rfl C.toCxD.hK)))))
theorem ok_is_decimal {P : Program} {w : World} {base : Heap} {M : Mx} (T : Tx M w) (Dx : DefAt M "is_decimal" s_is_decimal ["char"])  : FnOk P w M.K M.mg base (L2.CX P w) 1 Dx.f Dx.fd ["char"] (spD M 1 m_is_decimal) := by
  have h : ∀ (cdv : Value) (A : Around) (outer : List Env) (s : Shared) (H : Hp) (E : XK), Room 0 (A.deeper (envOfC "is_decimal" (defScope s_is_decimal) s.heap.objs.size Dx.f cdv)) → DSs (cxOf (L2.CX P w) P w M.K M.mg base n_is_decimal "is_decimal" (defScope s_is_decimal) Dx.f cdv A outer s H E) M (fun cls d _ H' => E cls d H') (defBody s_is_decimal) b_is_decimal := fun cdv A outer s H E hr => d_is_decimal T  (cxF_of sc_is_decimal hr)
  exact fn_D Dx.fu sc_is_decimal h
def cal_is_decimal {P : Program} {w : World} {base : Heap} {M : Mx} (T : Tx M w) (Dx : DefAt M "is_decimal" s_is_decimal ["char"])  : Cal P w base M "is_decimal" 1 1 m_is_decimal := Dx.cal (ok_is_decimal (P := P) (base := base) T Dx )
abbrev s_scan_number : Stmt := topS 20
abbrev n_scan_number : List Str := ["text", "position", "end"]
theorem sc_scan_number : FnScope n_scan_number ["text", "position"] (defScope s_scan_number) := ⟨rfl, rfl, rfl, by decide +kernel, rfl, by decide +kernel, by decide +kernel⟩
structure V_scan_number : Prop where
  position : NameOk (defScope s_scan_number) "position"
  «end» : NameOk (defScope s_scan_number) "end"
  text : NameOk (defScope s_scan_number) "text"
theorem v_scan_number : V_scan_number := ⟨⟨by unfold Vis; decide +kernel, by decide +kernel, by decide +kernel⟩, ⟨by unfold Vis; decide +kernel, by decide +kernel, by decide +kernel⟩, ⟨by unfold Vis; decide +kernel, by decide +kernel, by decide +kernel⟩⟩
structure L_scan_number : Prop where
  «end» : L2.Loc (defScope s_scan_number) "end"
theorem l_scan_number : L_scan_number := ⟨by unfold L2.Loc; decide +kernel⟩
structure G_scan_number : Prop where
  MAX_FIGURES : GlOk (defScope s_scan_number) "MAX_FIGURES"
  char_at : GlOk (defScope s_scan_number) "char_at"
  is_decimal : GlOk (defScope s_scan_number) "is_decimal"
  InvalidText : GlOk (defScope s_scan_number) "InvalidText"
theorem g_scan_number : G_scan_number := ⟨⟨by decide +kernel, by decide +kernel, by decide +kernel⟩, ⟨by decide +kernel, by decide +kernel, by decide +kernel⟩, ⟨by decide +kernel, by decide +kernel, by decide +kernel⟩, ⟨by decide +kernel, by decide +kernel, by decide +kernel⟩⟩
def b_scan_number : DM Fl := sSeq (sSet 2 (dVar 1)) (sSeq (sWhile (dAndT (fun ρ => (dOp2 ltD (dOp2 subD (dVar 2) (dVar 1)) (dC c_MAX_FIGURES) ρ).bind asB) (dAndT (fun ρ => ((dCall 1 [] m_is_decimal (aCons (dCall 2 [] m_char_at (aCons (dVar 0) (aCons (dVar 2) (aNil)))) (aNil))) ρ).bind asB) (fun ρ => (dOp2 neD (dSl (dVar 0) (oSome (dVar 1)) (oSome (dVar 2))) (dC (.str "0")) ρ).bind asB))) (sAug 2 addI (dC (.int 1)))) (sSeq (sIf (dOrT (fun ρ => (dOp2 eqD (dVar 2) (dVar 1) ρ).bind asB) (fun ρ => ((dCall 1 [] m_is_decimal (aCons (dCall 2 [] m_char_at (aCons (dVar 0) (aCons (dVar 2) (aNil)))) (aNil))) ρ).bind asB)) (sRaise1 "InvalidText" "InvalidText" "position" (dVar 2)) (sPass)) (sRet (dVar 2))))
def m_scan_number : SE → R RV := mFn n_scan_number.length b_scan_number
theorem d_scan_number {P : Program} {w : World} {base : Heap} {M : Mx} (T : Tx M w) (C_is_decimal : Cal P w base M "is_decimal" 1 1 m_is_decimal) (C_char_at : Cal P w base M "char_at" 1 2 m_char_at) {X : Cx} {W : DL.WX} (C : CxF P w base M n_scan_number (defScope s_scan_number) 2 X W) : DSs X M W (defBody s_scan_number) b_scan_number :=
  (dss_cons (ds_v C.toCxD 2 (C.st l_scan_number.«end») (de_v C.toCxD 1 v_scan_number.position)) (dss_cons (ds_while C.ps (dt_w (dw_and (dt_lt (de_sub (de_v C.toCxD 2 v_scan_number.«end») (de_v C.toCxD 1 v_scan_number.position)) (de_k C.toCxD g_scan_number.MAX_FIGURES T.k_MAX_FIGURES)) (dw_and (dt_val (de_callC C.toCxD C_is_decimal g_scan_number.is_decimal (by decide) (da_cons (de_callC C.toCxD C_char_at g_scan_number.char_at (by decide) (da_cons (de_v C.toCxD 0 v_scan_number.text) (da_cons (de_v C.toCxD 2 v_scan_number.«end») da_nil))) da_nil))) (dw_and1 (dt_ne (de_sl (de_v C.toCxD 0 v_scan_number.text) (do_some (de_v C.toCxD 1 v_scan_number.position)) (do_some (de_v C.toCxD 2 v_scan_number.«end»)) C.toCxD.hK) de_str C.toCxD.u64 C.toCxD.hK))))) (dss_one (ds_addv C.toCxD 2 (C.st l_scan_number.«end») de_int))) (dss_cons (ds_if (dt_w (dw_or (dt_eq (de_v C.toCxD 2 v_scan_number.«end») (de_v C.toCxD 1 v_scan_number.position) C.toCxD.u64 C.toCxD.hK) (dw_or1 (dt_val (de_callC C.toCxD C_is_decimal g_scan_number.is_decimal (by decide) (da_cons (de_callC C.toCxD C_char_at g_scan_number.char_at (by decide) (da_cons (de_v C.toCxD 0 v_scan_number.text) (da_cons (de_v C.toCxD 2 v_scan_number.«end») da_nil))) da_nil)))))) (dss_one (ds_raise1 C.toCxD T.x_InvalidText g_scan_number.InvalidText (by decide) (de_v C.toCxD 2 v_scan_number.«end»))) dss_nil) (dss_one (ds_ret (de_v C.toCxD 2 v_scan_number.«end»))))))
theorem ok_scan_number {P : Program} {w : World} {base : Heap} {M : Mx} (T : Tx M w) (Dx : DefAt M "scan_number" s_scan_number ["text", "position"]) (C_is_decimal : Cal P w base M "is_decimal" 1 1 m_is_decimal) (C_char_at : Cal P w base M "char_at" 1 2 m_char_at) : FnOk P w M.K M.mg base (L2.CX P w) 3 Dx.f Dx.fd ["text", "position"] (spD M 2 m_scan_number) := by
  have h : ∀ (cdv : Value) (A : Around) (outer : List Env) (s : Shared) (H : Hp) (E : XK), Room 2 (A.deeper (envOfC "scan_number" (defScope s_scan_number) s.heap.objs.size Dx.f cdv)) → DSs (cxOf (L2.CX P w) P w M.K M.mg base n_scan_number "scan_number" (defScope s_scan_number) Dx.f cdv A outer s H E) M (fun cls d _ H' => E cls d H') (defBody s_scan_number) b_scan_number := fun cdv A outer s H E hr => d_scan_number T C_is_decimal C_char_at (cxF_of sc_scan_number hr)
  exact fn_D Dx.fu sc_scan_number h
def cal_scan_number {P : Program} {w : World} {base : Heap} {M : Mx} (T : Tx M w) (Dx : DefAt M "scan_number" s_scan_number ["text", "position"]) (C_is_decimal : Cal P w base M "is_decimal" 1 1 m_is_decimal) (C_char_at : Cal P w base M "char_at" 1 2 m_char_at) : Cal P w base M "scan_number" 3 2 m_scan_number := Dx.cal (ok_scan_number (P := P) (base := base) T Dx C_is_decimal C_char_at)
abbrev s_common_divisor : Stmt := topS 6
abbrev n_common_divisor : List Str := ["one", "other"]
theorem sc_common_divisor : FnScope n_common_divisor ["one", "other"] (defScope s_common_divisor) := ⟨rfl, rfl, rfl, by decide +kernel, rfl, by decide +kernel, by decide +kernel⟩
structure V_common_divisor : Prop where
  other : NameOk (defScope s_common_divisor) "other"
  one : NameOk (defScope s_common_divisor) "one"
theorem v_common_divisor : V_common_divisor := ⟨⟨by unfold Vis; decide +kernel, by decide +kernel, by decide +kernel⟩, ⟨by unfold Vis; decide +kernel, by decide +kernel, by decide +kernel⟩⟩
def b_common_divisor : DM Fl := sSeq (sWhile (fun ρ => (dOp2 neD (dVar 1) (dC (.int 0)) ρ).bind asB) (sPar 0 1 (aCons (dVar 1) (aCons (dOp2 modD (dVar 0) (dVar 1)) (aNil))))) (sRet (dVar 0))
def m_common_divisor : SE → R RV := mFn n_common_divisor.length b_common_divisor
theorem d_common_divisor {P : Program} {w : World} {base : Heap} {M : Mx} (T : Tx M w)  {X : Cx} {W : DL.WX} (C : CxF P w base M n_common_divisor (defScope s_common_divisor) 0 X W) : DSs X M W (defBody s_common_divisor) b_common_divisor :=
  (dss_cons (ds_while C.ps (dt_ne (de_v C.toCxD 1 v_common_divisor.other) de_int C.toCxD.u64 C.toCxD.hK) (dss_one (ds_parv C.toCxD 0 1 (by decide +kernel) (by decide +kernel) rfl (by decide +kernel) (da_cons (de_v C.toCxD 1 v_common_divisor.other) (da_cons (de_mod (de_v C.toCxD 0 v_common_divisor.one) (de_v C.toCxD 1 v_common_divisor.other)) da_nil))))) (dss_one (ds_ret (de_v C.toCxD 0 v_common_divisor.one))))
theorem ok_common_divisor {P : Program} {w : World} {base : Heap} {M : Mx} (T : Tx M w) (Dx : DefAt M "common_divisor" s_common_divisor ["one", "other"])  : FnOk P w M.K M.mg base (L2.CX P w) 1 Dx.f Dx.fd ["one", "other"] (spD M 2 m_common_divisor) := by
  have h : ∀ (cdv : Value) (A : Around) (outer : List Env) (s : Shared) (H : Hp) (E : XK), Room 0 (A.deeper (envOfC "common_divisor" (defScope s_common_divisor) s.heap.objs.size Dx.f cdv)) → DSs (cxOf (L2.CX P w) P w M.K M.mg base n_common_divisor "common_divisor" (defScope s_common_divisor) Dx.f cdv A outer s H E) M (fun cls d _ H' => E cls d H') (defBody s_common_divisor) b_common_divisor := fun cdv A outer s H E hr => d_common_divisor T  (cxF_of sc_common_divisor hr)
  exact fn_D Dx.fu sc_common_divisor h
def cal_common_divisor {P : Program} {w : World} {base : Heap} {M : Mx} (T : Tx M w) (Dx : DefAt M "common_divisor" s_common_divisor ["one", "other"])  : Cal P w base M "common_divisor" 1 2 m_common_divisor := Dx.cal (ok_common_divisor (P := P) (base := base) T Dx )
abbrev s_scan_fraction : Stmt := topS 21
abbrev n_scan_fraction : List Str := ["text", "position", "start", "end", "last", "above", "below"]
theorem sc_scan_fraction : FnScope n_scan_fraction ["text", "position"] (defScope s_scan_fraction) := ⟨rfl, rfl, rfl, by decide +kernel, rfl, by decide +kernel, by decide +kernel⟩
structure V_scan_fraction : Prop where
  position : NameOk (defScope s_scan_fraction) "position"
  text : NameOk (defScope s_scan_fraction) "text"
  «end» : NameOk (defScope s_scan_fraction) "end"
  start : NameOk (defScope s_scan_fraction) "start"
  last : NameOk (defScope s_scan_fraction) "last"
  below : NameOk (defScope s_scan_fraction) "below"
  above : NameOk (defScope s_scan_fraction) "above"
theorem v_scan_fraction : V_scan_fraction := ⟨⟨by unfold Vis; decide +kernel, by decide +kernel, by decide +kernel⟩, ⟨by unfold Vis; decide +kernel, by decide +kernel, by decide +kernel⟩, ⟨by unfold Vis; decide +kernel, by decide +kernel, by decide +kernel⟩, ⟨by unfold Vis; decide +kernel, by decide +kernel, by decide +kernel⟩, ⟨by unfold Vis; decide +kernel, by decide +kernel, by decide +kernel⟩, ⟨by unfold Vis; decide +kernel, by decide +kernel, by decide +kernel⟩, ⟨by unfold Vis; decide +kernel, by decide +kernel, by decide +kernel⟩⟩
structure L_scan_fraction : Prop where
  start : L2.Loc (defScope s_scan_fraction) "start"
  position : L2.Loc (defScope s_scan_fraction) "position"
  «end» : L2.Loc (defScope s_scan_fraction) "end"
  last : L2.Loc (defScope s_scan_fraction) "last"
theorem l_scan_fraction : L_scan_fraction := ⟨by unfold L2.Loc; decide +kernel, by unfold L2.Loc; decide +kernel, by unfold L2.Loc; decide +kernel, by unfold L2.Loc; decide +kernel⟩
structure G_scan_fraction : Prop where
  char_at : GlOk (defScope s_scan_fraction) "char_at"
  InvalidText : GlOk (defScope s_scan_fraction) "InvalidText"
  scan_number : GlOk (defScope s_scan_fraction) "scan_number"
  int : GlOk (defScope s_scan_fraction) "int"
  abs : GlOk (defScope s_scan_fraction) "abs"
  common_divisor : GlOk (defScope s_scan_fraction) "common_divisor"
theorem g_scan_fraction : G_scan_fraction := ⟨⟨by decide +kernel, by decide +kernel, by decide +kernel⟩, ⟨by decide +kernel, by decide +kernel, by decide +kernel⟩, ⟨by decide +kernel, by decide +kernel, by decide +kernel⟩, ⟨by decide +kernel, by decide +kernel, by decide +kernel⟩, ⟨by decide +kernel, by decide +kernel, by decide +kernel⟩, ⟨by decide +kernel, by decide +kernel, by decide +kernel⟩⟩
def b_scan_fraction : DM Fl := sSeq (sSet 2 (dVar 1)) (sSeq (sIf (fun ρ => (dOp2 eqD (dCall 2 [] m_char_at (aCons (dVar 0) (aCons (dVar 1) (aNil)))) (dC (.str "-")) ρ).bind asB) (sSeq (sAug 1 addI (dC (.int 1))) (sIf (fun ρ => (dOp2 eqD (dCall 2 [] m_char_at (aCons (dVar 0) (aCons (dVar 1) (aNil)))) (dC (.str "0")) ρ).bind asB) (sRaise1 "InvalidText" "InvalidText" "position" (dVar 1)) (sPass))) (sPass)) (sSeq (sSet 3 (dCall 2 [] m_scan_number (aCons (dVar 0) (aCons (dVar 1) (aNil))))) (sSeq (sIf (fun ρ => (dOp2 neD (dCall 2 [] m_char_at (aCons (dVar 0) (aCons (dVar 3) (aNil)))) (dC (.str "/")) ρ).bind asB) (sRet (dTup (aCons (dTup (aCons (dCb gInt (vCons (dSl (dVar 0) (oSome (dVar 2)) (oSome (dVar 3))) (vNil))) (aCons (dC (.int 1)) (aNil)))) (aCons (dVar 3) (aNil))))) (sPass)) (sSeq (sSet 4 (dCall 2 [] m_scan_number (aCons (dVar 0) (aCons (dOp2 addD (dVar 3) (dC (.int 1))) (aNil))))) (sSeq (sPar 5 6 (aCons (dCb gInt (vCons (dSl (dVar 0) (oSome (dVar 2)) (oSome (dVar 3))) (vNil))) (aCons (dCb gInt (vCons (dSl (dVar 0) (oSome (dOp2 addD (dVar 3) (dC (.int 1)))) (oSome (dVar 4))) (vNil))) (aNil)))) (sSeq (sIf (dOrT (fun ρ => (dOp2 ltD (dVar 6) (dC (.int 2)) ρ).bind asB) (fun ρ => (dOp2 neD (dCall 2 [] m_common_divisor (aCons (dCb gAbs (vCons (dVar 5) (vNil))) (aCons (dVar 6) (aNil)))) (dC (.int 1)) ρ).bind asB)) (sRaise1 "InvalidText" "InvalidText" "position" (dOp2 addD (dVar 3) (dC (.int 1)))) (sPass)) (sRet (dTup (aCons (dTup (aCons (dVar 5) (aCons (dVar 6) (aNil)))) (aCons (dVar 4) (aNil)))))))))))
def m_scan_fraction : SE → R RV := mFn n_scan_fraction.length b_scan_fraction
theorem d_scan_fraction {P : Program} {w : World} {base : Heap} {M : Mx} (T : Tx M w) (C_char_at : Cal P w base M "char_at" 1 2 m_char_at) (C_scan_number : Cal P w base M "scan_number" 3 2 m_scan_number) (C_common_divisor : Cal P w base M "common_divisor" 1 2 m_common_divisor) {X : Cx} {W : DL.WX} (C : CxF P w base M n_scan_fraction (defScope s_scan_fraction) 3 X W) : DSs X M W (defBody s_scan_fraction) b_scan_fraction :=
  (dss_cons (ds_v C.toCxD 2 (C.st l_scan_fraction.start) (de_v C.toCxD 1 v_scan_fraction.position)) (dss_cons (ds_if (dt_eq (de_callC C.toCxD C_char_at g_scan_fraction.char_at (by decide) (da_cons (de_v C.toCxD 0 v_scan_fraction.text) (da_cons (de_v C.toCxD 1 v_scan_fraction.position) da_nil))) de_str C.toCxD.u64 C.toCxD.hK) (dss_cons (ds_addv C.toCxD 1 (C.st l_scan_fraction.position) de_int) (dss_one (ds_if (dt_eq (de_callC C.toCxD C_char_at g_scan_fraction.char_at (by decide) (da_cons (de_v C.toCxD 0 v_scan_fraction.text) (da_cons (de_v C.toCxD 1 v_scan_fraction.position) da_nil))) de_str C.toCxD.u64 C.toCxD.hK) (dss_one (ds_raise1 C.toCxD T.x_InvalidText g_scan_fraction.InvalidText (by decide) (de_v C.toCxD 1 v_scan_fraction.position))) dss_nil))) dss_nil) (dss_cons (ds_v C.toCxD 3 (C.st l_scan_fraction.«end») (de_callC C.toCxD C_scan_number g_scan_fraction.scan_number (by decide) (da_cons (de_v C.toCxD 0 v_scan_fraction.text) (da_cons (de_v C.toCxD 1 v_scan_fraction.position) da_nil)))) (dss_cons (ds_if (dt_ne (de_callC C.toCxD C_char_at g_scan_fraction.char_at (by decide) (da_cons (de_v C.toCxD 0 v_scan_fraction.text) (da_cons (de_v C.toCxD 3 v_scan_fraction.«end») da_nil))) de_str C.toCxD.u64 C.toCxD.hK) (dss_one (ds_ret (de_tup (da_cons (de_tup (da_cons (de_intF C.toCxD g_scan_fraction.int T.z_int (dv_cons (de_sl (de_v C.toCxD 0 v_scan_fraction.text) (do_some (de_v C.toCxD 2 v_scan_fraction.start)) (do_some (de_v C.toCxD 3 v_scan_fraction.«end»)) C.toCxD.hK) dv_nil)) (da_cons de_int da_nil))) (da_cons (de_v C.toCxD 3 v_scan_fraction.«end») da_nil))))) dss_nil) (dss_cons (ds_v C.toCxD 4 (C.st l_scan_fraction.last) (de_callC C.toCxD C_scan_number g_scan_fraction.scan_number (by decide) (da_cons (de_v C.toCxD 0 v_scan_fraction.text) (da_cons (de_add (de_v C.toCxD 3 v_scan_fraction.«end») de_int C.toCxD.hK) da_nil)))) (dss_cons (ds_parv C.toCxD 5 6 (by decide +kernel) (by decide +kernel) rfl (by decide +kernel) (da_cons (de_intF C.toCxD g_scan_fraction.int T.z_int (dv_cons (de_sl (de_v C.toCxD 0 v_scan_fraction.text) (do_some (de_v C.toCxD 2 v_scan_fraction.start)) (do_some (de_v C.toCxD 3 v_scan_fraction.«end»)) C.toCxD.hK) dv_nil)) (da_cons (de_intF C.toCxD g_scan_fraction.int T.z_int (dv_cons (de_sl (de_v C.toCxD 0 v_scan_fraction.text) (do_some (de_add (de_v C.toCxD 3 v_scan_fraction.«end») de_int C.toCxD.hK)) (do_some (de_v C.toCxD 4 v_scan_fraction.last)) C.toCxD.hK) dv_nil)) da_nil))) (dss_cons (ds_if (dt_w (dw_or (dt_lt (de_v C.toCxD 6 v_scan_fraction.below) de_int) (dw_or1 (dt_ne (de_callC C.toCxD C_common_divisor g_scan_fraction.common_divisor (by decide) (da_cons (de_absF C.toCxD g_scan_fraction.abs T.z_abs (dv_cons (de_v C.toCxD 5 v_scan_fraction.above) dv_nil)) (da_cons (de_v C.toCxD 6 v_scan_fraction.below) da_nil))) de_int C.toCxD.u64 C.toCxD.hK)))) (dss_one (ds_raise1 C.toCxD T.x_InvalidText g_scan_fraction.InvalidText (by decide) (de_add (de_v C.toCxD 3 v_scan_fraction.«end») de_int C.toCxD.hK))) dss_nil) (dss_one (ds_ret (de_tup (da_cons (de_tup (da_cons (de_v C.toCxD 5 v_scan_fraction.above) (da_cons (de_v C.toCxD 6 v_scan_fraction.below) da_nil))) (da_cons (de_v C.toCxD 4 v_scan_fraction.last) da_nil))))))))))))
theorem ok_scan_fraction {P : Program} {w : World} {base : Heap} {M : Mx} (T : Tx M w) (Dx : DefAt M "scan_fraction" s_scan_fraction ["text", "position"]) (C_char_at : Cal P w base M "char_at" 1 2 m_char_at) (C_scan_number : Cal P w base M "scan_number" 3 2 m_scan_number) (C_common_divisor : Cal P w base M "common_divisor" 1 2 m_common_divisor) : FnOk P w M.K M.mg base (L2.CX P w) 4 Dx.f Dx.fd ["text", "position"] (spD M 2 m_scan_fraction) := by
  have h : ∀ (cdv : Value) (A : Around) (outer : List Env) (s : Shared) (H : Hp) (E : XK), Room 3 (A.deeper (envOfC "scan_fraction" (defScope s_scan_fraction) s.heap.objs.size Dx.f cdv)) → DSs (cxOf (L2.CX P w) P w M.K M.mg base n_scan_fraction "scan_fraction" (defScope s_scan_fraction) Dx.f cdv A outer s H E) M (fun cls d _ H' => E cls d H') (defBody s_scan_fraction) b_scan_fraction := fun cdv A outer s H E hr => d_scan_fraction T C_char_at C_scan_number C_common_divisor (cxF_of sc_scan_fraction hr)
  exact fn_D Dx.fu sc_scan_fraction h
def cal_scan_fraction {P : Program} {w : World} {base : Heap} {M : Mx} (T : Tx M w) (Dx : DefAt M "scan_fraction" s_scan_fraction ["text", "position"]) (C_char_at : Cal P w base M "char_at" 1 2 m_char_at) (C_scan_number : Cal P w base M "scan_number" 3 2 m_scan_number) (C_common_divisor : Cal P w base M "common_divisor" 1 2 m_common_divisor) : Cal P w base M "scan_fraction" 4 2 m_scan_fraction := Dx.cal (ok_scan_fraction (P := P) (base := base) T Dx C_char_at C_scan_number C_common_divisor)
abbrev s_parse_part : Stmt := topS 24
abbrev n_parse_part : List Str := ["text", "position", "level", "char", "value", "part"]
theorem sc_parse_part : FnScope n_parse_part ["text", "position", "level"] (defScope s_parse_part) := ⟨rfl, rfl, rfl, by decide +kernel, rfl, by decide +kernel, by decide +kernel⟩
structure V_parse_part : Prop where
  position : NameOk (defScope s_parse_part) "position"
  text : NameOk (defScope s_parse_part) "text"
  level : NameOk (defScope s_parse_part) "level"
  char : NameOk (defScope s_parse_part) "char"
  value : NameOk (defScope s_parse_part) "value"
  part : NameOk (defScope s_parse_part) "part"
theorem v_parse_part : V_parse_part := ⟨⟨by unfold Vis; decide +kernel, by decide +kernel, by decide +kernel⟩, ⟨by unfold Vis; decide +kernel, by decide +kernel, by decide +kernel⟩, ⟨by unfold Vis; decide +kernel, by decide +kernel, by decide +kernel⟩, ⟨by unfold Vis; decide +kernel, by decide +kernel, by decide +kernel⟩, ⟨by unfold Vis; decide +kernel, by decide +kernel, by decide +kernel⟩, ⟨by unfold Vis; decide +kernel, by decide +kernel, by decide +kernel⟩⟩
structure L_parse_part : Prop where
  char : L2.Loc (defScope s_parse_part) "char"
  position : L2.Loc (defScope s_parse_part) "position"
  value : L2.Loc (defScope s_parse_part) "value"
  part : L2.Loc (defScope s_parse_part) "part"
theorem l_parse_part : L_parse_part := ⟨by unfold L2.Loc; decide +kernel, by unfold L2.Loc; decide +kernel, by unfold L2.Loc; decide +kernel, by unfold L2.Loc; decide +kernel⟩
structure G_parse_part : Prop where
  char_at : GlOk (defScope s_parse_part) "char_at"
  MAX_DEPTH : GlOk (defScope s_parse_part) "MAX_DEPTH"
  InvalidText : GlOk (defScope s_parse_part) "InvalidText"
  parse_pair : GlOk (defScope s_parse_part) "parse_pair"
  LETTERS : GlOk (defScope s_parse_part) "LETTERS"
  parse_word : GlOk (defScope s_parse_part) "parse_word"
  DECIMALS : GlOk (defScope s_parse_part) "DECIMALS"
  scan_fraction : GlOk (defScope s_parse_part) "scan_fraction"
  parse_part : GlOk (defScope s_parse_part) "parse_part"
theorem g_parse_part : G_parse_part := ⟨⟨by decide +kernel, by decide +kernel, by decide +kernel⟩, ⟨by decide +kernel, by decide +kernel, by decide +kernel⟩, ⟨by decide +kernel, by decide +kernel, by decide +kernel⟩, ⟨by decide +kernel, by decide +kernel, by decide +kernel⟩, ⟨by decide +kernel, by decide +kernel, by decide +kernel⟩, ⟨by decide +kernel, by decide +kernel, by decide +kernel⟩, ⟨by decide +kernel, by decide +kernel, by decide +kernel⟩, ⟨by decide +kernel, by decide +kernel, by decide +kernel⟩, ⟨by decide +kernel, by decide +kernel, by decide +kernel⟩⟩
def b_parse_part (m : SE → R RV) : DM Fl := sSeq (sSet 3 (dCall 2 [] m_char_at (aCons (dVar 0) (aCons (dVar 1) (aNil))))) (sSeq (sIf (dOrT (fun ρ => (dOp2 gtD (dVar 2) (dC c_MAX_DEPTH) ρ).bind asB) (fun ρ => (dOp2 eqD (dVar 3) (dC (.str "")) ρ).bind asB)) (sRaise1 "InvalidText" "InvalidText" "position" (dVar 1)) (sPass)) (sSeq (sIf (fun ρ => (dOp2 eqD (dVar 3) (dC (.str "(")) ρ).bind asB) (sRet (dCall 3 [] (m_parse_pair m) (aCons (dVar 0) (aCons (dOp2 addD (dVar 1) (dC (.int 1))) (aCons (dOp2 addD (dVar 2) (dC (.int 1))) (aNil)))))) (sPass)) (sSeq (sIf (fun ρ => (dOp2 (inD false) (dVar 3) (dC c_LETTERS) ρ).bind asB) (sRet (dCall 3 [] (m_parse_word m) (aCons (dVar 0) (aCons (dVar 1) (aCons (dOp2 addD (dVar 2) (dC (.int 1))) (aNil)))))) (sPass)) (sSeq (sIf (dAndT (fun ρ => (dOp2 (inD true) (dVar 3) (dC c_DECIMALS) ρ).bind asB) (fun ρ => (dOp2 neD (dVar 3) (dC (.str "-")) ρ).bind asB)) (sRaise1 "InvalidText" "InvalidText" "position" (dVar 1)) (sPass)) (sSeq (sAsg (tgTup 2 (tgCons (tgName 4) (tgCons (tgName 1) (tgNil)))) (dCall 2 [] m_scan_fraction (aCons (dVar 0) (aCons (dVar 1) (aNil))))) (sSeq (sIf (fun ρ => (dOp2 neD (dCall 2 [] m_char_at (aCons (dVar 0) (aCons (dVar 1) (aNil)))) (dC (.str "*")) ρ).bind asB) (sRet (dTup (aCons (dTup (aCons (dC (.str "number")) (aCons (dVar 4) (aNil)))) (aCons (dVar 1) (aNil))))) (sPass)) (sSeq (sAsg (tgTup 2 (tgCons (tgName 5) (tgCons (tgName 1) (tgNil)))) (dCall 3 [] m (aCons (dVar 0) (aCons (dOp2 addD (dVar 1) (dC (.int 1))) (aCons (dOp2 addD (dVar 2) (dC (.int 1))) (aNil)))))) (sRet (dTup (aCons (dTup (aCons (dC (.str "multiple")) (aCons (dVar 4) (aCons (dVar 5) (aNil))))) (aCons (dVar 1) (aNil))))))))))))
def m_parse_part : Nat → SE → R RV
  | 0 => mBad
  | n + 1 => mFn n_parse_part.length (b_parse_part (m_parse_part n))
theorem d_parse_part {P : Program} {w : World} {base : Heap} {M : Mx} (T : Tx M w) (C_char_at : Cal P w base M "char_at" 1 2 m_char_at) (C_scan_fraction : Cal P w base M "scan_fraction" 4 2 m_scan_fraction) (k : Nat) (hk : 4 ≤ k) (m : SE → R RV) (C_parse_part : Cal P w base M "parse_part" k 3 m) (C_parse_pair : Cal P w base M "parse_pair" (k + 1) 3 (m_parse_pair m)) (C_parse_word : Cal P w base M "parse_word" (k + 1) 3 (m_parse_word m)) {X : Cx} {W : DL.WX} (C : CxF P w base M n_parse_part (defScope s_parse_part) (k + 1) X W) : DSs X M W (defBody s_parse_part) (b_parse_part m) :=
  (dss_cons (ds_v C.toCxD 3 (C.st l_parse_part.char) (de_callC C.toCxD C_char_at g_parse_part.char_at (by omega) (da_cons (de_v C.toCxD 0 v_parse_part.text) (da_cons (de_v C.toCxD 1 v_parse_part.position) da_nil)))) (dss_cons (ds_if (dt_w (dw_or (dt_gt (de_v C.toCxD 2 v_parse_part.level) (de_k C.toCxD g_parse_part.MAX_DEPTH T.k_MAX_DEPTH)) (dw_or1 (dt_eq (de_v C.toCxD 3 v_parse_part.char) de_str C.toCxD.u64 C.toCxD.hK)))) (dss_one (ds_raise1 C.toCxD T.x_InvalidText g_parse_part.InvalidText (by omega) (de_v C.toCxD 1 v_parse_part.position))) dss_nil) (dss_cons (ds_if (dt_eq (de_v C.toCxD 3 v_parse_part.char) de_str C.toCxD.u64 C.toCxD.hK) (dss_one (ds_ret (de_callC C.toCxD C_parse_pair g_parse_part.parse_pair (by omega) (da_cons (de_v C.toCxD 0 v_parse_part.text) (da_cons (de_add (de_v C.toCxD 1 v_parse_part.position) de_int C.toCxD.hK) (da_cons (de_add (de_v C.toCxD 2 v_parse_part.level) de_int C.toCxD.hK) da_nil)))))) dss_nil) (dss_cons (ds_if (dt_in (de_v C.toCxD 3 v_parse_part.char) (de_k C.toCxD g_parse_part.LETTERS T.k_LETTERS) C.toCxD.u65 rfl C.toCxD.hK) (dss_one (ds_ret (de_callC C.toCxD C_parse_word g_parse_part.parse_word (by omega) (da_cons (de_v C.toCxD 0 v_parse_part.text) (da_cons (de_v C.toCxD 1 v_parse_part.position) (da_cons (de_add (de_v C.toCxD 2 v_parse_part.level) de_int C.toCxD.hK) da_nil)))))) dss_nil) (dss_cons (ds_if (dt_w (dw_and (dt_notIn (de_v C.toCxD 3 v_parse_part.char) (de_k C.toCxD g_parse_part.DECIMALS T.k_DECIMALS) C.toCxD.u65 rfl C.toCxD.hK) (dw_and1 (dt_ne (de_v C.toCxD 3 v_parse_part.char) de_str C.toCxD.u64 C.toCxD.hK)))) (dss_one (ds_raise1 C.toCxD T.x_InvalidText g_parse_part.InvalidText (by omega) (de_v C.toCxD 1 v_parse_part.position))) dss_nil) (dss_cons (ds_asg (de_callC C.toCxD C_scan_fraction g_parse_part.scan_fraction (by omega) (da_cons (de_v C.toCxD 0 v_parse_part.text) (da_cons (de_v C.toCxD 1 v_parse_part.position) da_nil))) (dg_tup C.toCxD.cm (dgs_cons (dg_v C.toCxD 4 (C.st l_parse_part.value)) (dgs_cons (dg_v C.toCxD 1 (C.st l_parse_part.position)) dgs_nil)) rfl rfl C.toCxD.hK)) (dss_cons (ds_if (dt_ne (de_callC C.toCxD C_char_at g_parse_part.char_at (by omega) (da_cons (de_v C.toCxD 0 v_parse_part.text) (da_cons (de_v C.toCxD 1 v_parse_part.position) da_nil))) de_str C.toCxD.u64 C.toCxD.hK) (dss_one (ds_ret (de_tup (da_cons (de_tup (da_cons de_str (da_cons (de_v C.toCxD 4 v_parse_part.value) da_nil))) (da_cons (de_v C.toCxD 1 v_parse_part.position) da_nil))))) dss_nil) (dss_cons (ds_asg (de_callC C.toCxD C_parse_part g_parse_part.parse_part (by omega) (da_cons (de_v C.toCxD 0 v_parse_part.text) (da_cons (de_add (de_v C.toCxD 1 v_parse_part.position) de_int C.toCxD.hK) (da_cons (de_add (de_v C.toCxD 2 v_parse_part.level) de_int C.toCxD.hK) da_nil)))) (dg_tup C.toCxD.cm (dgs_cons (dg_v C.toCxD 5 (C.st l_parse_part.part)) (dgs_cons (dg_v C.toCxD 1 (C.st l_parse_part.position)) dgs_nil)) rfl rfl C.toCxD.hK)) (dss_one (ds_ret (de_tup (da_cons (de_tup (da_cons de_str (da_cons (de_v C.toCxD 4 v_parse_part.value) (da_cons (de_v C.toCxD 5 v_parse_part.part) da_nil)))) (da_cons (de_v C.toCxD 1 v_parse_part.position) da_nil)))))))))))))
theorem ok_parse_part {P : Program} {w : World} {base : Heap} {M : Mx} (T : Tx M w) (Dx : DefAt M "parse_part" s_parse_part ["text", "position", "level"]) (D_parse_pair : DefAt M "parse_pair" s_parse_pair ["text", "position", "level"]) (D_parse_word : DefAt M "parse_word" s_parse_word ["text", "position", "level"]) (C_char_at : Cal P w base M "char_at" 1 2 m_char_at) (C_scan_fraction : Cal P w base M "scan_fraction" 4 2 m_scan_fraction) (C_scan_exact : Cal P w base M "scan_exact" 3 3 m_scan_exact) (C_is_name : Cal P w base M "is_name" 1 1 m_is_name) : ∀ n : Nat, FnOk P w M.K M.mg base (L2.CX P w) (4 + n * 2) Dx.f Dx.fd ["text", "position", "level"] (spD M 3 (m_parse_part n))
  | 0 => fn_bad
  | n + 1 => by
    have ih := ok_parse_part (P := P) (base := base) T Dx D_parse_pair D_parse_word C_char_at C_scan_fraction C_scan_exact C_is_name n
    have C_parse_part : Cal P w base M "parse_part" (4 + n * 2) 3 (m_parse_part n) := Dx.cal ih
    have C_parse_pair := cal_parse_pair (P := P) (base := base) T D_parse_pair C_scan_exact C_char_at (4 + n * 2) (by omega) (m_parse_part n) C_parse_part
    have C_parse_word := cal_parse_word (P := P) (base := base) T D_parse_word C_char_at C_is_name C_scan_exact (4 + n * 2) (by omega) (m_parse_part n) C_parse_part
    have h : ∀ (cdv : Value) (A : Around) (outer : List Env) (s : Shared) (H : Hp) (E : XK), Room (4 + n * 2 + 1) (A.deeper (envOfC "parse_part" (defScope s_parse_part) s.heap.objs.size Dx.f cdv)) → DSs (cxOf (L2.CX P w) P w M.K M.mg base n_parse_part "parse_part" (defScope s_parse_part) Dx.f cdv A outer s H E) M (fun cls d _ H' => E cls d H') (defBody s_parse_part) (b_parse_part (m_parse_part n)) := fun cdv A outer s H E hr => d_parse_part T C_char_at C_scan_fraction (4 + n * 2) (by omega) (m_parse_part n) C_parse_part C_parse_pair C_parse_word (cxF_of sc_parse_part hr)
    have e : 4 + (n + 1) * 2 = 4 + n * 2 + 1 + 1 := by omega
    rw [e]
    exact fn_D Dx.fu sc_parse_part h
def cal_parse_part {P : Program} {w : World} {base : Heap} {M : Mx} (T : Tx M w) (Dx : DefAt M "parse_part" s_parse_part ["text", "position", "level"]) (D_parse_pair : DefAt M "parse_pair" s_parse_pair ["text", "position", "level"]) (D_parse_word : DefAt M "parse_word" s_parse_word ["text", "position", "level"]) (C_char_at : Cal P w base M "char_at" 1 2 m_char_at) (C_scan_fraction : Cal P w base M "scan_fraction" 4 2 m_scan_fraction) (C_scan_exact : Cal P w base M "scan_exact" 3 3 m_scan_exact) (C_is_name : Cal P w base M "is_name" 1 1 m_is_name) : Cal P w base M "parse_part" 32 3 (m_parse_part 14) := Dx.cal (ok_parse_part (P := P) (base := base) T Dx D_parse_pair D_parse_word C_char_at C_scan_fraction C_scan_exact C_is_name 14)
abbrev s_parse_expression : Stmt := topS 25
abbrev n_parse_expression : List Str := ["text", "result", "position"]
theorem sc_parse_expression : FnScope n_parse_expression ["text"] (defScope s_parse_expression) := ⟨rfl, rfl, rfl, by decide +kernel, rfl, by decide +kernel, by decide +kernel⟩
structure V_parse_expression : Prop where
  text : NameOk (defScope s_parse_expression) "text"
  position : NameOk (defScope s_parse_expression) "position"
  result : NameOk (defScope s_parse_expression) "result"
theorem v_parse_expression : V_parse_expression := ⟨⟨by unfold Vis; decide +kernel, by decide +kernel, by decide +kernel⟩, ⟨by unfold Vis; decide +kernel, by decide +kernel, by decide +kernel⟩, ⟨by unfold Vis; decide +kernel, by decide +kernel, by decide +kernel⟩⟩
structure L_parse_expression : Prop where
  position : L2.Loc (defScope s_parse_expression) "position"
  result : L2.Loc (defScope s_parse_expression) "result"
theorem l_parse_expression : L_parse_expression := ⟨by unfold L2.Loc; decide +kernel, by unfold L2.Loc; decide +kernel⟩
structure G_parse_expression : Prop where
  parse_part : GlOk (defScope s_parse_expression) "parse_part"
  len : GlOk (defScope s_parse_expression) "len"
  InvalidText : GlOk (defScope s_parse_expression) "InvalidText"
theorem g_parse_expression : G_parse_expression := ⟨⟨by decide +kernel, by decide +kernel, by decide +kernel⟩, ⟨by decide +kernel, by decide +kernel, by decide +kernel⟩, ⟨by decide +kernel, by decide +kernel, by decide +kernel⟩⟩
def b_parse_expression : DM Fl := sSeq (sAsg (tgTup 2 (tgCons (tgName 1) (tgCons (tgName 2) (tgNil)))) (dCall 3 [] (m_parse_part 14) (aCons (dVar 0) (aCons (dC (.int 0)) (aCons (dC (.int 1)) (aNil)))))) (sSeq (sIf (fun ρ => (dOp2 ltD (dVar 2) (dCb gLen (vCons (dVar 0) (vNil))) ρ).bind asB) (sRaise1 "InvalidText" "InvalidText" "position" (dVar 2)) (sPass)) (sRet (dVar 1)))
def m_parse_expression : SE → R RV := mFn n_parse_expression.length b_parse_expression
theorem d_parse_expression {P : Program} {w : World} {base : Heap} {M : Mx} (T : Tx M w) (C_parse_part : Cal P w base M "parse_part" 32 3 (m_parse_part 14)) {X : Cx} {W : DL.WX} (C : CxF P w base M n_parse_expression (defScope s_parse_expression) 32 X W) : DSs X M W (defBody s_parse_expression) b_parse_expression :=
  (dss_cons (ds_asg (de_callC C.toCxD C_parse_part g_parse_expression.parse_part (by decide) (da_cons (de_v C.toCxD 0 v_parse_expression.text) (da_cons de_int (da_cons de_int da_nil)))) (dg_tup C.toCxD.cm (dgs_cons (dg_v C.toCxD 1 (C.st l_parse_expression.result)) (dgs_cons (dg_v C.toCxD 2 (C.st l_parse_expression.position)) dgs_nil)) rfl rfl C.toCxD.hK)) (dss_cons (ds_if (dt_lt (de_v C.toCxD 2 v_parse_expression.position) (de_lenF C.toCxD g_parse_expression.len T.z_len (dv_cons (de_v C.toCxD 0 v_parse_expression.text) dv_nil))) (dss_one (ds_raise1 C.toCxD T.x_InvalidText g_parse_expression.InvalidText (by decide) (de_v C.toCxD 2 v_parse_expression.position))) dss_nil) (dss_one (ds_ret (de_v C.toCxD 1 v_parse_expression.result)))))
theorem ok_parse_expression {P : Program} {w : World} {base : Heap} {M : Mx} (T : Tx M w) (Dx : DefAt M "parse_expression" s_parse_expression ["text"]) (C_parse_part : Cal P w base M "parse_part" 32 3 (m_parse_part 14)) : FnOk P w M.K M.mg base (L2.CX P w) 33 Dx.f Dx.fd ["text"] (spD M 1 m_parse_expression) := by
  have h : ∀ (cdv : Value) (A : Around) (outer : List Env) (s : Shared) (H : Hp) (E : XK), Room 32 (A.deeper (envOfC "parse_expression" (defScope s_parse_expression) s.heap.objs.size Dx.f cdv)) → DSs (cxOf (L2.CX P w) P w M.K M.mg base n_parse_expression "parse_expression" (defScope s_parse_expression) Dx.f cdv A outer s H E) M (fun cls d _ H' => E cls d H') (defBody s_parse_expression) b_parse_expression := fun cdv A outer s H E hr => d_parse_expression T C_parse_part (cxF_of sc_parse_expression hr)
  exact fn_D Dx.fu sc_parse_expression h
def cal_parse_expression {P : Program} {w : World} {base : Heap} {M : Mx} (T : Tx M w) (Dx : DefAt M "parse_expression" s_parse_expression ["text"]) (C_parse_part : Cal P w base M "parse_part" 32 3 (m_parse_part 14)) : Cal P w base M "parse_expression" 33 1 m_parse_expression := Dx.cal (ok_parse_expression (P := P) (base := base) T Dx C_parse_part)
abbrev s__law_same : Stmt := topS 30
abbrev n__law_same : List Str := ["_law_found", "_law_due_here", "_law_one", "_law_other"]
theorem sc__law_same : FnScope n__law_same ["_law_found", "_law_due_here"] (defScope s__law_same) := ⟨rfl, rfl, rfl, by decide +kernel, rfl, by decide +kernel, by decide +kernel⟩
structure V__law_same : Prop where
  _law_due_here : NameOk (defScope s__law_same) "_law_due_here"
  _law_found : NameOk (defScope s__law_same) "_law_found"
theorem v__law_same : V__law_same := ⟨⟨by unfold Vis; decide +kernel, by decide +kernel, by decide +kernel⟩, ⟨by unfold Vis; decide +kernel, by decide +kernel, by decide +kernel⟩⟩
structure G__law_same : Prop where
  isinstance : GlOk (defScope s__law_same) "isinstance"
  list : GlOk (defScope s__law_same) "list"
  tuple : GlOk (defScope s__law_same) "tuple"
  len : GlOk (defScope s__law_same) "len"
  zip : GlOk (defScope s__law_same) "zip"
  all : GlOk (defScope s__law_same) "all"
  bool : GlOk (defScope s__law_same) "bool"
  int : GlOk (defScope s__law_same) "int"
  str : GlOk (defScope s__law_same) "str"
theorem g__law_same : G__law_same := ⟨⟨by decide +kernel, by decide +kernel, by decide +kernel⟩, ⟨by decide +kernel, by decide +kernel, by decide +kernel⟩, ⟨by decide +kernel, by decide +kernel, by decide +kernel⟩, ⟨by decide +kernel, by decide +kernel, by decide +kernel⟩, ⟨by decide +kernel, by decide +kernel, by decide +kernel⟩, ⟨by decide +kernel, by decide +kernel, by decide +kernel⟩, ⟨by decide +kernel, by decide +kernel, by decide +kernel⟩, ⟨by decide +kernel, by decide +kernel, by decide +kernel⟩, ⟨by decide +kernel, by decide +kernel, by decide +kernel⟩⟩
def b__law_same (m : SE → R RV) : DM Fl := sSeq (sIf (dOrT (fun ρ => (dOp2 (isND false) (dVar 1) (dC .non) ρ).bind asB) (fun ρ => (dOp2 (isND false) (dVar 0) (dC .non) ρ).bind asB)) (sRet (dAnd (dOp2 (isND false) (dVar 0) (dC .non)) (dOp2 (isND false) (dVar 1) (dC .non)))) (sPass)) (sSeq (sIf (fun ρ => ((dOp1 (isiD2 "list" "tuple") (dVar 1)) ρ).bind asB) (sSeq (sIf (dOrT (fun ρ => (dOp2 neD (dOp1 (isiD "list") (dVar 0)) (dOp1 (isiD "list") (dVar 1)) ρ).bind asB) (fun ρ => (dOp2 neD (dOp1 (isiD "tuple") (dVar 0)) (dOp1 (isiD "tuple") (dVar 1)) ρ).bind asB)) (sRet (dC (.bl false))) (sPass)) (sRet (dAnd (dOp2 eqD (dCb gLen (vCons (dVar 0) (vNil))) (dCb gLen (vCons (dVar 1) (vNil)))) (dCb gAll (vCons (dLc [2, 3] (iZipU (aCons (dVar 0) (aCons (dVar 1) (aNil)))) (tgTup 2 (tgCons (tgName 2) (tgCons (tgName 3) (tgNil)))) (tYesD) (dCall 2 [] m (aCons (dVar 2) (aCons (dVar 3) (aNil))))) (vNil)))))) (sPass)) (sSeq (sIf (dOrT (fun ρ => (dOp2 neD (dOp1 (isiD "bool") (dVar 0)) (dOp1 (isiD "bool") (dVar 1)) ρ).bind asB) (fun ρ => (dOp2 neD (dOp1 (isiD "int") (dVar 0)) (dOp1 (isiD "int") (dVar 1)) ρ).bind asB)) (sRet (dC (.bl false))) (sPass)) (sRet (dAnd (dOp2 eqD (dOp1 (isiD "str") (dVar 0)) (dOp1 (isiD "str") (dVar 1))) (dOp2 eqD (dVar 0) (dVar 1))))))
def m__law_same : Nat → SE → R RV
  | 0 => mBad
  | n + 1 => mFn n__law_same.length (b__law_same (m__law_same n))
theorem d__law_same {P : Program} {w : World} {base : Heap} {M : Mx} (T : Tx M w)  (k : Nat) (hk : 0 ≤ k) (m : SE → R RV) (C__law_same : Cal P w base M "_law_same" k 2 m) {X : Cx} {W : DL.WX} (C : CxF P w base M n__law_same (defScope s__law_same) k X W) : DSs X M W (defBody s__law_same) (b__law_same m) :=
  (dss_cons (ds_if (dt_w (dw_or (dt_isN (de_v C.toCxD 1 v__law_same._law_due_here) de_non) (dw_or1 (dt_isN (de_v C.toCxD 0 v__law_same._law_found) de_non)))) (dss_one (ds_ret (de_and (de_isN (de_v C.toCxD 0 v__law_same._law_found) de_non) (de_one (de_isN (de_v C.toCxD 1 v__law_same._law_due_here) de_non))))) dss_nil) (dss_cons (ds_if (dt_val (de_isi2F C.toCxD g__law_same.isinstance T.z_isinstance g__law_same.list T.z_list boot_list kit_list g__law_same.tuple T.z_tuple boot_tuple kit_tuple (de_v C.toCxD 1 v__law_same._law_due_here))) (dss_cons (ds_if (dt_w (dw_or (dt_ne (de_isiF C.toCxD g__law_same.isinstance T.z_isinstance g__law_same.list T.z_list boot_list kit_list (de_v C.toCxD 0 v__law_same._law_found)) (de_isiF C.toCxD g__law_same.isinstance T.z_isinstance g__law_same.list T.z_list boot_list kit_list (de_v C.toCxD 1 v__law_same._law_due_here)) C.toCxD.u64 C.toCxD.hK) (dw_or1 (dt_ne (de_isiF C.toCxD g__law_same.isinstance T.z_isinstance g__law_same.tuple T.z_tuple boot_tuple kit_tuple (de_v C.toCxD 0 v__law_same._law_found)) (de_isiF C.toCxD g__law_same.isinstance T.z_isinstance g__law_same.tuple T.z_tuple boot_tuple kit_tuple (de_v C.toCxD 1 v__law_same._law_due_here)) C.toCxD.u64 C.toCxD.hK)))) (dss_one (ds_ret de_bl)) dss_nil) (dss_one (ds_ret (de_and (de_eq (de_lenF C.toCxD g__law_same.len T.z_len (dv_cons (de_v C.toCxD 0 v__law_same._law_found) dv_nil)) (de_lenF C.toCxD g__law_same.len T.z_len (dv_cons (de_v C.toCxD 1 v__law_same._law_due_here) dv_nil)) C.toCxD.u64 C.toCxD.hK) (de_one (de_allF C.toCxD g__law_same.all T.z_all (dv_cons (de_lcF C.toCxD [("_law_one", 2), ("_law_other", 3)] (blkOk_by (by decide +kernel)) (tgTup_ex (tgCons_ex tgName_ex (tgCons_ex tgName_ex tgNil_ex))) (di_zipU C.toCxD g__law_same.zip T.z_zip (da_cons (de_v C.toCxD 0 v__law_same._law_found) (da_cons (de_v C.toCxD 1 v__law_same._law_due_here) da_nil))) (fun _ _ _ _ _ => (dg_tup (C.toCxD.blk rfl _ _ _ _ _).cm (dgs_cons (dg_v (C.toCxD.blk rfl _ _ _ _ _) 2 ((C.toCxD.blk rfl _ _ _ _ _).stl (by decide +kernel))) (dgs_cons (dg_v (C.toCxD.blk rfl _ _ _ _ _) 3 ((C.toCxD.blk rfl _ _ _ _ _).stl (by decide +kernel))) dgs_nil)) rfl rfl (C.toCxD.blk rfl _ _ _ _ _).hK)) (fun _ _ _ _ _ => dts_nil) (fun _ _ _ _ _ => (de_callC (C.toCxD.blk rfl _ _ _ _ _) C__law_same ⟨by decide +kernel, by decide +kernel, by decide +kernel⟩ (by omega) (da_cons (de_v (C.toCxD.blk rfl _ _ _ _ _) 2 ⟨by unfold Vis; decide +kernel, by decide +kernel, by decide +kernel⟩) (da_cons (de_v (C.toCxD.blk rfl _ _ _ _ _) 3 ⟨by unfold Vis; decide +kernel, by decide +kernel, by decide +kernel⟩) da_nil))))) dv_nil))))))) dss_nil) (dss_cons (ds_if (dt_w (dw_or (dt_ne (de_isiF C.toCxD g__law_same.isinstance T.z_isinstance g__law_same.bool T.z_bool boot_bool kit_bool (de_v C.toCxD 0 v__law_same._law_found)) (de_isiF C.toCxD g__law_same.isinstance T.z_isinstance g__law_same.bool T.z_bool boot_bool kit_bool (de_v C.toCxD 1 v__law_same._law_due_here)) C.toCxD.u64 C.toCxD.hK) (dw_or1 (dt_ne (de_isiF C.toCxD g__law_same.isinstance T.z_isinstance g__law_same.int T.z_int boot_int kit_int (de_v C.toCxD 0 v__law_same._law_found)) (de_isiF C.toCxD g__law_same.isinstance T.z_isinstance g__law_same.int T.z_int boot_int kit_int (de_v C.toCxD 1 v__law_same._law_due_here)) C.toCxD.u64 C.toCxD.hK)))) (dss_one (ds_ret de_bl)) dss_nil) (dss_one (ds_ret (de_and (de_eq (de_isiF C.toCxD g__law_same.isinstance T.z_isinstance g__law_same.str T.z_str boot_str kit_str (de_v C.toCxD 0 v__law_same._law_found)) (de_isiF C.toCxD g__law_same.isinstance T.z_isinstance g__law_same.str T.z_str boot_str kit_str (de_v C.toCxD 1 v__law_same._law_due_here)) C.toCxD.u64 C.toCxD.hK) (de_one (de_eq (de_v C.toCxD 0 v__law_same._law_found) (de_v C.toCxD 1 v__law_same._law_due_here) C.toCxD.u64 C.toCxD.hK))))))))
theorem ok__law_same {P : Program} {w : World} {base : Heap} {M : Mx} (T : Tx M w) (Dx : DefAt M "_law_same" s__law_same ["_law_found", "_law_due_here"])  : ∀ n : Nat, FnOk P w M.K M.mg base (L2.CX P w) (0 + n) Dx.f Dx.fd ["_law_found", "_law_due_here"] (spD M 2 (m__law_same n))
  | 0 => fn_bad
  | n + 1 => by
    have ih := ok__law_same (P := P) (base := base) T Dx  n
    have h : ∀ (cdv : Value) (A : Around) (outer : List Env) (s : Shared) (H : Hp) (E : XK), Room (0 + n) (A.deeper (envOfC "_law_same" (defScope s__law_same) s.heap.objs.size Dx.f cdv)) → DSs (cxOf (L2.CX P w) P w M.K M.mg base n__law_same "_law_same" (defScope s__law_same) Dx.f cdv A outer s H E) M (fun cls d _ H' => E cls d H') (defBody s__law_same) (b__law_same (m__law_same n)) := fun cdv A outer s H E hr => d__law_same T  (0 + n) (by omega) (m__law_same n) (Dx.cal ih) (cxF_of sc__law_same hr)
    exact fn_D Dx.fu sc__law_same h
def cal__law_same {P : Program} {w : World} {base : Heap} {M : Mx} (T : Tx M w) (Dx : DefAt M "_law_same" s__law_same ["_law_found", "_law_due_here"])  : Cal P w base M "_law_same" 16 2 (m__law_same 16) := Dx.cal (ok__law_same (P := P) (base := base) T Dx  16)
abbrev s__law_at : Stmt := topS 41
abbrev n__law_at : List Str := ["_law_text_here", "_law_k"]
theorem sc__law_at : FnScope n__law_at ["_law_text_here", "_law_k"] (defScope s__law_at) := ⟨rfl, rfl, rfl, by decide +kernel, rfl, by decide +kernel, by decide +kernel⟩
structure V__law_at : Prop where
  _law_k : NameOk (defScope s__law_at) "_law_k"
  _law_text_here : NameOk (defScope s__law_at) "_law_text_here"
theorem v__law_at : V__law_at := ⟨⟨by unfold Vis; decide +kernel, by decide +kernel, by decide +kernel⟩, ⟨by unfold Vis; decide +kernel, by decide +kernel, by decide +kernel⟩⟩
structure G__law_at : Prop where
  len : GlOk (defScope s__law_at) "len"
theorem g__law_at : G__law_at := ⟨⟨by decide +kernel, by decide +kernel, by decide +kernel⟩⟩
def b__law_at : DM Fl := sRet (dIf (fun ρ => (dOp2 ltD (dVar 1) (dCb gLen (vCons (dVar 0) (vNil))) ρ).bind asB) (dOp2 ixD (dVar 0) (dVar 1)) (dC (.str "")))
def m__law_at : SE → R RV := mFn n__law_at.length b__law_at
theorem d__law_at {P : Program} {w : World} {base : Heap} {M : Mx} (T : Tx M w)  {X : Cx} {W : DL.WX} (C : CxF P w base M n__law_at (defScope s__law_at) 0 X W) : DSs X M W (defBody s__law_at) b__law_at :=
  (dss_one (ds_ret (de_if (dt_lt (de_v C.toCxD 1 v__law_at._law_k) (de_lenF C.toCxD g__law_at.len T.z_len (dv_cons (de_v C.toCxD 0 v__law_at._law_text_here) dv_nil))) (de_ix (de_v C.toCxD 0 v__law_at._law_text_here) (de_v C.toCxD 1 v__law_at._law_k) (fun _ _ => rfl) C.toCxD.hK) de_str)))
theorem ok__law_at {P : Program} {w : World} {base : Heap} {M : Mx} (T : Tx M w) (Dx : DefAt M "_law_at" s__law_at ["_law_text_here", "_law_k"])  : FnOk P w M.K M.mg base (L2.CX P w) 1 Dx.f Dx.fd ["_law_text_here", "_law_k"] (spD M 2 m__law_at) := by
  have h : ∀ (cdv : Value) (A : Around) (outer : List Env) (s : Shared) (H : Hp) (E : XK), Room 0 (A.deeper (envOfC "_law_at" (defScope s__law_at) s.heap.objs.size Dx.f cdv)) → DSs (cxOf (L2.CX P w) P w M.K M.mg base n__law_at "_law_at" (defScope s__law_at) Dx.f cdv A outer s H E) M (fun cls d _ H' => E cls d H') (defBody s__law_at) b__law_at := fun cdv A outer s H E hr => d__law_at T  (cxF_of sc__law_at hr)
  exact fn_D Dx.fu sc__law_at h
def cal__law_at {P : Program} {w : World} {base : Heap} {M : Mx} (T : Tx M w) (Dx : DefAt M "_law_at" s__law_at ["_law_text_here", "_law_k"])  : Cal P w base M "_law_at" 1 2 m__law_at := Dx.cal (ok__law_at (P := P) (base := base) T Dx )
abbrev s__law_fits : Stmt := topS 42
abbrev n__law_fits : List Str := ["_law_text_here", "_law_k", "_law_word", "_law_char"]
theorem sc__law_fits : FnScope n__law_fits ["_law_text_here", "_law_k", "_law_word"] (defScope s__law_fits) := ⟨rfl, rfl, rfl, by decide +kernel, rfl, by decide +kernel, by decide +kernel⟩
structure V__law_fits : Prop where
  _law_word : NameOk (defScope s__law_fits) "_law_word"
  _law_k : NameOk (defScope s__law_fits) "_law_k"
  _law_text_here : NameOk (defScope s__law_fits) "_law_text_here"
  _law_char : NameOk (defScope s__law_fits) "_law_char"
theorem v__law_fits : V__law_fits := ⟨⟨by unfold Vis; decide +kernel, by decide +kernel, by decide +kernel⟩, ⟨by unfold Vis; decide +kernel, by decide +kernel, by decide +kernel⟩, ⟨by unfold Vis; decide +kernel, by decide +kernel, by decide +kernel⟩, ⟨by unfold Vis; decide +kernel, by decide +kernel, by decide +kernel⟩⟩
structure L__law_fits : Prop where
  _law_char : L2.Loc (defScope s__law_fits) "_law_char"
  _law_k : L2.Loc (defScope s__law_fits) "_law_k"
theorem l__law_fits : L__law_fits := ⟨by unfold L2.Loc; decide +kernel, by unfold L2.Loc; decide +kernel⟩
structure G__law_fits : Prop where
  _law_at : GlOk (defScope s__law_fits) "_law_at"
theorem g__law_fits : G__law_fits := ⟨⟨by decide +kernel, by decide +kernel, by decide +kernel⟩⟩
def b__law_fits : DM Fl := sSeq (sFor (iSeq (dVar 2)) (tgName 3) (sSeq (sIf (fun ρ => (dOp2 neD (dCall 2 [] m__law_at (aCons (dVar 0) (aCons (dVar 1) (aNil)))) (dVar 3) ρ).bind asB) (sRet (dTup (aCons (dVar 1) (aCons (dC (.bl false)) (aNil))))) (sPass)) (sSet 1 (dOp2 addD (dVar 1) (dC (.int 1)))))) (sRet (dTup (aCons (dVar 1) (aCons (dC (.bl true)) (aNil)))))
def m__law_fits : SE → R RV := mFn n__law_fits.length b__law_fits
theorem d__law_fits {P : Program} {w : World} {base : Heap} {M : Mx} (T : Tx M w) (C__law_at : Cal P w base M "_law_at" 1 2 m__law_at) {X : Cx} {W : DL.WX} (C : CxF P w base M n__law_fits (defScope s__law_fits) 1 X W) : DSs X M W (defBody s__law_fits) b__law_fits :=
  (dss_cons (ds_for C.ps C.cm (di_seq (de_v C.toCxD 2 v__law_fits._law_word) C.toCxD.hK) (dg_v C.toCxD 3 (C.st l__law_fits._law_char)) (dss_cons (ds_if (dt_ne (de_callC C.toCxD C__law_at g__law_fits._law_at (by decide) (da_cons (de_v C.toCxD 0 v__law_fits._law_text_here) (da_cons (de_v C.toCxD 1 v__law_fits._law_k) da_nil))) (de_v C.toCxD 3 v__law_fits._law_char) C.toCxD.u64 C.toCxD.hK) (dss_one (ds_ret (de_tup (da_cons (de_v C.toCxD 1 v__law_fits._law_k) (da_cons de_bl da_nil))))) dss_nil) (dss_one (ds_v C.toCxD 1 (C.st l__law_fits._law_k) (de_add (de_v C.toCxD 1 v__law_fits._law_k) de_int C.toCxD.hK))))) (dss_one (ds_ret (de_tup (da_cons (de_v C.toCxD 1 v__law_fits._law_k) (da_cons de_bl da_nil))))))
theorem ok__law_fits {P : Program} {w : World} {base : Heap} {M : Mx} (T : Tx M w) (Dx : DefAt M "_law_fits" s__law_fits ["_law_text_here", "_law_k", "_law_word"]) (C__law_at : Cal P w base M "_law_at" 1 2 m__law_at) : FnOk P w M.K M.mg base (L2.CX P w) 2 Dx.f Dx.fd ["_law_text_here", "_law_k", "_law_word"] (spD M 3 m__law_fits) := by
  have h : ∀ (cdv : Value) (A : Around) (outer : List Env) (s : Shared) (H : Hp) (E : XK), Room 1 (A.deeper (envOfC "_law_fits" (defScope s__law_fits) s.heap.objs.size Dx.f cdv)) → DSs (cxOf (L2.CX P w) P w M.K M.mg base n__law_fits "_law_fits" (defScope s__law_fits) Dx.f cdv A outer s H E) M (fun cls d _ H' => E cls d H') (defBody s__law_fits) b__law_fits := fun cdv A outer s H E hr => d__law_fits T C__law_at (cxF_of sc__law_fits hr)
  exact fn_D Dx.fu sc__law_fits h
def cal__law_fits {P : Program} {w : World} {base : Heap} {M : Mx} (T : Tx M w) (Dx : DefAt M "_law_fits" s__law_fits ["_law_text_here", "_law_k", "_law_word"]) (C__law_at : Cal P w base M "_law_at" 1 2 m__law_at) : Cal P w base M "_law_fits" 2 3 m__law_fits := Dx.cal (ok__law_fits (P := P) (base := base) T Dx C__law_at)
abbrev s__law_scan_pair : Stmt := topS 46
abbrev n__law_scan_pair : List Str := ["_law_text_here", "_law_k", "_law_level", "_law_end", "_law_first", "_law_good", "_law_sign", "_law_last"]
theorem sc__law_scan_pair : FnScope n__law_scan_pair ["_law_text_here", "_law_k", "_law_level"] (defScope s__law_scan_pair) := ⟨rfl, rfl, rfl, by decide +kernel, rfl, by decide +kernel, by decide +kernel⟩
structure V__law_scan_pair : Prop where
  _law_level : NameOk (defScope s__law_scan_pair) "_law_level"
  _law_k : NameOk (defScope s__law_scan_pair) "_law_k"
  _law_text_here : NameOk (defScope s__law_scan_pair) "_law_text_here"
  _law_first : NameOk (defScope s__law_scan_pair) "_law_first"
  _law_end : NameOk (defScope s__law_scan_pair) "_law_end"
  _law_good : NameOk (defScope s__law_scan_pair) "_law_good"
  _law_sign : NameOk (defScope s__law_scan_pair) "_law_sign"
  _law_last : NameOk (defScope s__law_scan_pair) "_law_last"
theorem v__law_scan_pair : V__law_scan_pair := ⟨⟨by unfold Vis; decide +kernel, by decide +kernel, by decide +kernel⟩, ⟨by unfold Vis; decide +kernel, by decide +kernel, by decide +kernel⟩, ⟨by unfold Vis; decide +kernel, by decide +kernel, by decide +kernel⟩, ⟨by unfold Vis; decide +kernel, by decide +kernel, by decide +kernel⟩, ⟨by unfold Vis; decide +kernel, by decide +kernel, by decide +kernel⟩, ⟨by unfold Vis; decide +kernel, by decide +kernel, by decide +kernel⟩, ⟨by unfold Vis; decide +kernel, by decide +kernel, by decide +kernel⟩, ⟨by unfold Vis; decide +kernel, by decide +kernel, by decide +kernel⟩⟩
structure L__law_scan_pair : Prop where
  _law_first : L2.Loc (defScope s__law_scan_pair) "_law_first"
  _law_end : L2.Loc (defScope s__law_scan_pair) "_law_end"
  _law_good : L2.Loc (defScope s__law_scan_pair) "_law_good"
  _law_sign : L2.Loc (defScope s__law_scan_pair) "_law_sign"
  _law_last : L2.Loc (defScope s__law_scan_pair) "_law_last"
theorem l__law_scan_pair : L__law_scan_pair := ⟨by unfold L2.Loc; decide +kernel, by unfold L2.Loc; decide +kernel, by unfold L2.Loc; decide +kernel, by unfold L2.Loc; decide +kernel, by unfold L2.Loc; decide +kernel⟩
structure G__law_scan_pair : Prop where
  _law_scan : GlOk (defScope s__law_scan_pair) "_law_scan"
  _law_fits : GlOk (defScope s__law_scan_pair) "_law_fits"
  _law_at : GlOk (defScope s__law_scan_pair) "_law_at"
theorem g__law_scan_pair : G__law_scan_pair := ⟨⟨by decide +kernel, by decide +kernel, by decide +kernel⟩, ⟨by decide +kernel, by decide +kernel, by decide +kernel⟩, ⟨by decide +kernel, by decide +kernel, by decide +kernel⟩⟩
def b__law_scan_pair (m : SE → R RV) : DM Fl := sSeq (sAsg (tgTup 2 (tgCons (tgName 3) (tgCons (tgName 4) (tgNil)))) (dCall 3 [] m (aCons (dVar 0) (aCons (dOp2 addD (dVar 1) (dC (.int 1))) (aCons (dOp2 addD (dVar 2) (dC (.int 1))) (aNil)))))) (sSeq (sIf (fun ρ => (dOp2 (isND false) (dVar 4) (dC .non) ρ).bind asB) (sRet (dTup (aCons (dVar 3) (aCons (dC .non) (aNil))))) (sPass)) (sSeq (sAsg (tgTup 2 (tgCons (tgName 3) (tgCons (tgName 5) (tgNil)))) (dCall 3 [] m__law_fits (aCons (dVar 0) (aCons (dVar 3) (aCons (dC (.str " ")) (aNil)))))) (sSeq (sSet 6 (dCall 2 [] m__law_at (aCons (dVar 0) (aCons (dVar 3) (aNil))))) (sSeq (sIf (dOrT (dNotT (fun ρ => ((dVar 5) ρ).bind asB)) (fun ρ => (dOp2 (inD true) (dVar 6) (dTup (aCons (dC (.str "+")) (aCons (dC (.str "-")) (aNil)))) ρ).bind asB)) (sRet (dTup (aCons (dVar 3) (aCons (dC .non) (aNil))))) (sPass)) (sSeq (sAsg (tgTup 2 (tgCons (tgName 3) (tgCons (tgName 5) (tgNil)))) (dCall 3 [] m__law_fits (aCons (dVar 0) (aCons (dOp2 addD (dVar 3) (dC (.int 1))) (aCons (dC (.str " ")) (aNil)))))) (sSeq (sAsg (tgTup 2 (tgCons (tgName 3) (tgCons (tgName 7) (tgNil)))) (dIf (fun ρ => ((dVar 5) ρ).bind asB) (dCall 3 [] m (aCons (dVar 0) (aCons (dVar 3) (aCons (dOp2 addD (dVar 2) (dC (.int 1))) (aNil))))) (dTup (aCons (dVar 3) (aCons (dC .non) (aNil)))))) (sSeq (sIf (fun ρ => (dOp2 (isND false) (dVar 7) (dC .non) ρ).bind asB) (sRet (dTup (aCons (dVar 3) (aCons (dC .non) (aNil))))) (sPass)) (sSeq (sAsg (tgTup 2 (tgCons (tgName 3) (tgCons (tgName 5) (tgNil)))) (dCall 3 [] m__law_fits (aCons (dVar 0) (aCons (dVar 3) (aCons (dC (.str ")")) (aNil)))))) (sRet (dTup (aCons (dVar 3) (aCons (dIf (fun ρ => ((dVar 5) ρ).bind asB) (dTup (aCons (dIf (fun ρ => (dOp2 eqD (dVar 6) (dC (.str "+")) ρ).bind asB) (dC (.str "add")) (dC (.str "subtract"))) (aCons (dVar 4) (aCons (dVar 7) (aNil))))) (dC .non)) (aNil)))))))))))))
def m__law_scan_pair (m : SE → R RV) : SE → R RV := mFn n__law_scan_pair.length (b__law_scan_pair m)
theorem d__law_scan_pair {P : Program} {w : World} {base : Heap} {M : Mx} (T : Tx M w) (C__law_fits : Cal P w base M "_law_fits" 2 3 m__law_fits) (C__law_at : Cal P w base M "_law_at" 1 2 m__law_at) (k : Nat) (hk : 2 ≤ k) (m : SE → R RV) (C__law_scan : Cal P w base M "_law_scan" k 3 m) {X : Cx} {W : DL.WX} (C : CxF P w base M n__law_scan_pair (defScope s__law_scan_pair) (k + 0) X W) : DSs X M W (defBody s__law_scan_pair) (b__law_scan_pair m) :=
  (dss_cons (ds_asg (de_callC C.toCxD C__law_scan g__law_scan_pair._law_scan (by omega) (da_cons (de_v C.toCxD 0 v__law_scan_pair._law_text_here) (da_cons (de_add (de_v C.toCxD 1 v__law_scan_pair._law_k) de_int C.toCxD.hK) (da_cons (de_add (de_v C.toCxD 2 v__law_scan_pair._law_level) de_int C.toCxD.hK) da_nil)))) (dg_tup C.toCxD.cm (dgs_cons (dg_v C.toCxD 3 (C.st l__law_scan_pair._law_end)) (dgs_cons (dg_v C.toCxD 4 (C.st l__law_scan_pair._law_first)) dgs_nil)) rfl rfl C.toCxD.hK)) (dss_cons (ds_if (dt_isN (de_v C.toCxD 4 v__law_scan_pair._law_first) de_non) (dss_one (ds_ret (de_tup (da_cons (de_v C.toCxD 3 v__law_scan_pair._law_end) (da_cons de_non da_nil))))) dss_nil) (dss_cons (ds_asg (de_callC C.toCxD C__law_fits g__law_scan_pair._law_fits (by omega) (da_cons (de_v C.toCxD 0 v__law_scan_pair._law_text_here) (da_cons (de_v C.toCxD 3 v__law_scan_pair._law_end) (da_cons de_str da_nil)))) (dg_tup C.toCxD.cm (dgs_cons (dg_v C.toCxD 3 (C.st l__law_scan_pair._law_end)) (dgs_cons (dg_v C.toCxD 5 (C.st l__law_scan_pair._law_good)) dgs_nil)) rfl rfl C.toCxD.hK)) (dss_cons (ds_v C.toCxD 6 (C.st l__law_scan_pair._law_sign) (de_callC C.toCxD C__law_at g__law_scan_pair._law_at (by omega) (da_cons (de_v C.toCxD 0 v__law_scan_pair._law_text_here) (da_cons (de_v C.toCxD 3 v__law_scan_pair._law_end) da_nil)))) (dss_cons (ds_if (dt_w (dw_or (dt_not (dt_val (de_v C.toCxD 5 v__law_scan_pair._law_good))) (dw_or1 (dt_notIn (de_v C.toCxD 6 v__law_scan_pair._law_sign) (de_tup (da_cons de_str (da_cons de_str da_nil))) C.toCxD.u65 rfl C.toCxD.hK)))) (dss_one (ds_ret (de_tup (da_cons (de_v C.toCxD 3 v__law_scan_pair._law_end) (da_cons de_non da_nil))))) dss_nil) (dss_cons (ds_asg (de_callC C.toCxD C__law_fits g__law_scan_pair._law_fits (by omega) (da_cons (de_v C.toCxD 0 v__law_scan_pair._law_text_here) (da_cons (de_add (de_v C.toCxD 3 v__law_scan_pair._law_end) de_int C.toCxD.hK) (da_cons de_str da_nil)))) (dg_tup C.toCxD.cm (dgs_cons (dg_v C.toCxD 3 (C.st l__law_scan_pair._law_end)) (dgs_cons (dg_v C.toCxD 5 (C.st l__law_scan_pair._law_good)) dgs_nil)) rfl rfl C.toCxD.hK)) (dss_cons (ds_asg (de_if (dt_val (de_v C.toCxD 5 v__law_scan_pair._law_good)) (de_callC C.toCxD C__law_scan g__law_scan_pair._law_scan (by omega) (da_cons (de_v C.toCxD 0 v__law_scan_pair._law_text_here) (da_cons (de_v C.toCxD 3 v__law_scan_pair._law_end) (da_cons (de_add (de_v C.toCxD 2 v__law_scan_pair._law_level) de_int C.toCxD.hK) da_nil)))) (de_tup (da_cons (de_v C.toCxD 3 v__law_scan_pair._law_end) (da_cons de_non da_nil)))) (dg_tup C.toCxD.cm (dgs_cons (dg_v C.toCxD 3 (C.st l__law_scan_pair._law_end)) (dgs_cons (dg_v C.toCxD 7 (C.st l__law_scan_pair._law_last)) dgs_nil)) rfl rfl C.toCxD.hK)) (dss_cons (ds_if (dt_isN (de_v C.toCxD 7 v__law_scan_pair._law_last) de_non) (dss_one (ds_ret (de_tup (da_cons (de_v C.toCxD 3 v__law_scan_pair._law_end) (da_cons de_non da_nil))))) dss_nil) (dss_cons (ds_asg (de_callC C.toCxD C__law_fits g__law_scan_pair._law_fits (by omega) (da_cons (de_v C.toCxD 0 v__law_scan_pair._law_text_here) (da_cons (de_v C.toCxD 3 v__law_scan_pair._law_end) (da_cons de_str da_nil)))) (dg_tup C.toCxD.cm (dgs_cons (dg_v C.toCxD 3 (C.st l__law_scan_pair._law_end)) (dgs_cons (dg_v C.toCxD 5 (C.st l__law_scan_pair._law_good)) dgs_nil)) rfl rfl C.toCxD.hK)) (dss_one (ds_ret (de_tup (da_cons (de_v C.toCxD 3 v__law_scan_pair._law_end) (da_cons (de_if (dt_val (de_v C.toCxD 5 v__law_scan_pair._law_good)) (de_tup (da_cons (de_if (dt_eq (de_v C.toCxD 6 v__law_scan_pair._law_sign) de_str C.toCxD.u64 C.toCxD.hK) de_str de_str) (da_cons (de_v C.toCxD 4 v__law_scan_pair._law_first) (da_cons (de_v C.toCxD 7 v__law_scan_pair._law_last) da_nil)))) de_non) da_nil))))))))))))))
theorem ok__law_scan_pair {P : Program} {w : World} {base : Heap} {M : Mx} (T : Tx M w) (Dx : DefAt M "_law_scan_pair" s__law_scan_pair ["_law_text_here", "_law_k", "_law_level"]) (C__law_fits : Cal P w base M "_law_fits" 2 3 m__law_fits) (C__law_at : Cal P w base M "_law_at" 1 2 m__law_at) (k : Nat) (hk : 2 ≤ k) (m : SE → R RV) (C__law_scan : Cal P w base M "_law_scan" k 3 m) : FnOk P w M.K M.mg base (L2.CX P w) (k + 1) Dx.f Dx.fd ["_law_text_here", "_law_k", "_law_level"] (spD M 3 (m__law_scan_pair m)) := by
  have h : ∀ (cdv : Value) (A : Around) (outer : List Env) (s : Shared) (H : Hp) (E : XK), Room (k + 0) (A.deeper (envOfC "_law_scan_pair" (defScope s__law_scan_pair) s.heap.objs.size Dx.f cdv)) → DSs (cxOf (L2.CX P w) P w M.K M.mg base n__law_scan_pair "_law_scan_pair" (defScope s__law_scan_pair) Dx.f cdv A outer s H E) M (fun cls d _ H' => E cls d H') (defBody s__law_scan_pair) (b__law_scan_pair m) := fun cdv A outer s H E hr => d__law_scan_pair T C__law_fits C__law_at k hk m C__law_scan (cxF_of sc__law_scan_pair hr)
  exact fn_D Dx.fu sc__law_scan_pair h
def cal__law_scan_pair {P : Program} {w : World} {base : Heap} {M : Mx} (T : Tx M w) (Dx : DefAt M "_law_scan_pair" s__law_scan_pair ["_law_text_here", "_law_k", "_law_level"]) (C__law_fits : Cal P w base M "_law_fits" 2 3 m__law_fits) (C__law_at : Cal P w base M "_law_at" 1 2 m__law_at) (k : Nat) (hk : 2 ≤ k) (m : SE → R RV) (C__law_scan : Cal P w base M "_law_scan" k 3 m) : Cal P w base M "_law_scan_pair" (k + 1) 3 (m__law_scan_pair m) := Dx.cal (ok__law_scan_pair (P := P) (base := base) T Dx C__law_fits C__law_at k hk m C__law_scan)
abbrev s__law_is_name : Stmt := topS 35
abbrev n__law_is_name : List Str := ["_law_text_here", "_law_good", "_law_char"]
theorem sc__law_is_name : FnScope n__law_is_name ["_law_text_here"] (defScope s__law_is_name) := ⟨rfl, rfl, rfl, by decide +kernel, rfl, by decide +kernel, by decide +kernel⟩
structure V__law_is_name : Prop where
  _law_text_here : NameOk (defScope s__law_is_name) "_law_text_here"
  _law_good : NameOk (defScope s__law_is_name) "_law_good"
theorem v__law_is_name : V__law_is_name := ⟨⟨by unfold Vis; decide +kernel, by decide +kernel, by decide +kernel⟩, ⟨by unfold Vis; decide +kernel, by decide +kernel, by decide +kernel⟩⟩
structure L__law_is_name : Prop where
  _law_good : L2.Loc (defScope s__law_is_name) "_law_good"
theorem l__law_is_name : L__law_is_name := ⟨by unfold L2.Loc; decide +kernel⟩
structure G__law_is_name : Prop where
  len : GlOk (defScope s__law_is_name) "len"
  all : GlOk (defScope s__law_is_name) "all"
theorem g__law_is_name : G__law_is_name := ⟨⟨by decide +kernel, by decide +kernel, by decide +kernel⟩, ⟨by decide +kernel, by decide +kernel, by decide +kernel⟩⟩
def b__law_is_name : DM Fl := sSeq (sSet 1 (dAnd (dChain leD leD (dC (.int 2)) (dCb gLen (vCons (dVar 0) (vNil))) (dC (.int 8))) (dOp2 (inD true) (dVar 0) (dTup (aCons (dC (.str "abs")) (aCons (dC (.str "max")) (aCons (dC (.str "min")) (aNil)))))))) (sRet (dAnd (dVar 1) (dCb gAll (vCons (dLc [2] (iSeq (dVar 0)) (tgName 2) (tYesD) (dOp2 (inD false) (dVar 2) (dCall 0 [] m__law_letters aNil))) (vNil)))))
def m__law_is_name : SE → R RV := mFn n__law_is_name.length b__law_is_name
theorem d__law_is_name {P : Program} {w : World} {base : Heap} {M : Mx} (T : Tx M w) (C__law_letters : Cal P w base M "_law_letters" 1 0 m__law_letters) {X : Cx} {W : DL.WX} (C : CxF P w base M n__law_is_name (defScope s__law_is_name) 1 X W) : DSs X M W (defBody s__law_is_name) b__law_is_name :=
  (dss_cons (ds_v C.toCxD 1 (C.st l__law_is_name._law_good) (de_and (de_chain op_le op_le o2_le o2_le de_int (de_lenF C.toCxD g__law_is_name.len T.z_len (dv_cons (de_v C.toCxD 0 v__law_is_name._law_text_here) dv_nil)) de_int (fun ta tb tc p q r => pe_chain op_le op_le p q r)) (de_one (de_notIn (de_v C.toCxD 0 v__law_is_name._law_text_here) (de_tup (da_cons de_str (da_cons de_str (da_cons de_str da_nil)))) C.toCxD.u65 rfl C.toCxD.hK)))) (dss_one (ds_ret (de_and (de_v C.toCxD 1 v__law_is_name._law_good) (de_one (de_allF C.toCxD g__law_is_name.all T.z_all (dv_cons (de_lcF C.toCxD [("_law_char", 2)] (blkOk_by (by decide +kernel)) tgName_ex (di_seq (de_v C.toCxD 0 v__law_is_name._law_text_here) C.toCxD.hK) (fun _ _ _ _ _ => (dg_v (C.toCxD.blk rfl _ _ _ _ _) 2 ((C.toCxD.blk rfl _ _ _ _ _).stl (by decide +kernel)))) (fun _ _ _ _ _ => dts_nil) (fun _ _ _ _ _ => (de_in (de_v (C.toCxD.blk rfl _ _ _ _ _) 2 ⟨by unfold Vis; decide +kernel, by decide +kernel, by decide +kernel⟩) (de_callC0 (C.toCxD.blk rfl _ _ _ _ _) C__law_letters ⟨by decide +kernel, by decide +kernel, by decide +kernel⟩ (by decide)) (C.toCxD.blk rfl _ _ _ _ _).u65 rfl (C.toCxD.blk rfl _ _ _ _ _).hK))) dv_nil)))))))
theorem ok__law_is_name {P : Program} {w : World} {base : Heap} {M : Mx} (T : Tx M w) (Dx : DefAt M "_law_is_name" s__law_is_name ["_law_text_here"]) (C__law_letters : Cal P w base M "_law_letters" 1 0 m__law_letters) : FnOk P w M.K M.mg base (L2.CX P w) 2 Dx.f Dx.fd ["_law_text_here"] (spD M 1 m__law_is_name) := by
  have h : ∀ (cdv : Value) (A : Around) (outer : List Env) (s : Shared) (H : Hp) (E : XK), Room 1 (A.deeper (envOfC "_law_is_name" (defScope s__law_is_name) s.heap.objs.size Dx.f cdv)) → DSs (cxOf (L2.CX P w) P w M.K M.mg base n__law_is_name "_law_is_name" (defScope s__law_is_name) Dx.f cdv A outer s H E) M (fun cls d _ H' => E cls d H') (defBody s__law_is_name) b__law_is_name := fun cdv A outer s H E hr => d__law_is_name T C__law_letters (cxF_of sc__law_is_name hr)
  exact fn_D Dx.fu sc__law_is_name h
def cal__law_is_name {P : Program} {w : World} {base : Heap} {M : Mx} (T : Tx M w) (Dx : DefAt M "_law_is_name" s__law_is_name ["_law_text_here"]) (C__law_letters : Cal P w base M "_law_letters" 1 0 m__law_letters) : Cal P w base M "_law_is_name" 2 1 m__law_is_name := Dx.cal (ok__law_is_name (P := P) (base := base) T Dx C__law_letters)
abbrev s__law_scan_word : Stmt := topS 45
abbrev n__law_scan_word : List Str := ["_law_text_here", "_law_k", "_law_level", "_law_end", "_law_word", "_law_good", "_law_first", "_law_found", "_law_last"]
theorem sc__law_scan_word : FnScope n__law_scan_word ["_law_text_here", "_law_k", "_law_level"] (defScope s__law_scan_word) := ⟨rfl, rfl, rfl, by decide +kernel, rfl, by decide +kernel, by decide +kernel⟩
structure V__law_scan_word : Prop where
  _law_k : NameOk (defScope s__law_scan_word) "_law_k"
  _law_end : NameOk (defScope s__law_scan_word) "_law_end"
  _law_text_here : NameOk (defScope s__law_scan_word) "_law_text_here"
  _law_word : NameOk (defScope s__law_scan_word) "_law_word"
  _law_good : NameOk (defScope s__law_scan_word) "_law_good"
  _law_level : NameOk (defScope s__law_scan_word) "_law_level"
  _law_first : NameOk (defScope s__law_scan_word) "_law_first"
  _law_last : NameOk (defScope s__law_scan_word) "_law_last"
  _law_found : NameOk (defScope s__law_scan_word) "_law_found"
theorem v__law_scan_word : V__law_scan_word := ⟨⟨by unfold Vis; decide +kernel, by decide +kernel, by decide +kernel⟩, ⟨by unfold Vis; decide +kernel, by decide +kernel, by decide +kernel⟩, ⟨by unfold Vis; decide +kernel, by decide +kernel, by decide +kernel⟩, ⟨by unfold Vis; decide +kernel, by decide +kernel, by decide +kernel⟩, ⟨by unfold Vis; decide +kernel, by decide +kernel, by decide +kernel⟩, ⟨by unfold Vis; decide +kernel, by decide +kernel, by decide +kernel⟩, ⟨by unfold Vis; decide +kernel, by decide +kernel, by decide +kernel⟩, ⟨by unfold Vis; decide +kernel, by decide +kernel, by decide +kernel⟩, ⟨by unfold Vis; decide +kernel, by decide +kernel, by decide +kernel⟩⟩
structure L__law_scan_word : Prop where
  _law_end : L2.Loc (defScope s__law_scan_word) "_law_end"
  _law_word : L2.Loc (defScope s__law_scan_word) "_law_word"
  _law_good : L2.Loc (defScope s__law_scan_word) "_law_good"
  _law_first : L2.Loc (defScope s__law_scan_word) "_law_first"
  _law_found : L2.Loc (defScope s__law_scan_word) "_law_found"
  _law_last : L2.Loc (defScope s__law_scan_word) "_law_last"
theorem l__law_scan_word : L__law_scan_word := ⟨by unfold L2.Loc; decide +kernel, by unfold L2.Loc; decide +kernel, by unfold L2.Loc; decide +kernel, by unfold L2.Loc; decide +kernel, by unfold L2.Loc; decide +kernel, by unfold L2.Loc; decide +kernel⟩
structure G__law_scan_word : Prop where
  _law_at : GlOk (defScope s__law_scan_word) "_law_at"
  _law_letters : GlOk (defScope s__law_scan_word) "_law_letters"
  _law_is_name : GlOk (defScope s__law_scan_word) "_law_is_name"
  _law_fits : GlOk (defScope s__law_scan_word) "_law_fits"
  _law_scan : GlOk (defScope s__law_scan_word) "_law_scan"
theorem g__law_scan_word : G__law_scan_word := ⟨⟨by decide +kernel, by decide +kernel, by decide +kernel⟩, ⟨by decide +kernel, by decide +kernel, by decide +kernel⟩, ⟨by decide +kernel, by decide +kernel, by decide +kernel⟩, ⟨by decide +kernel, by decide +kernel, by decide +kernel⟩, ⟨by decide +kernel, by decide +kernel, by decide +kernel⟩⟩
def b__law_scan_word (m : SE → R RV) : DM Fl := sSeq (sSet 3 (dVar 1)) (sSeq (sWhile (dAndT (fun ρ => (dOp2 neD (dCall 2 [] m__law_at (aCons (dVar 0) (aCons (dVar 3) (aNil)))) (dC (.str "")) ρ).bind asB) (fun ρ => (dOp2 (inD false) (dCall 2 [] m__law_at (aCons (dVar 0) (aCons (dVar 3) (aNil)))) (dCall 0 [] m__law_letters aNil) ρ).bind asB)) (sSet 3 (dOp2 addD (dVar 3) (dC (.int 1))))) (sSeq (sSet 4 (dSl (dVar 0) (oSome (dVar 1)) (oSome (dVar 3)))) (sSeq (sIf (fun ρ => (dOp2 eqD (dVar 4) (dC (.str "x")) ρ).bind asB) (sRet (dTup (aCons (dVar 3) (aCons (dTup (aCons (dC (.str "x")) (aNil))) (aNil))))) (sPass)) (sSeq (sIf (dAndT (fun ρ => (dOp2 (inD true) (dVar 4) (dTup (aCons (dC (.str "abs")) (aCons (dC (.str "max")) (aCons (dC (.str "min")) (aNil))))) ρ).bind asB) (dNotT (fun ρ => ((dCall 1 [] m__law_is_name (aCons (dVar 4) (aNil))) ρ).bind asB))) (sRet (dTup (aCons (dVar 1) (aCons (dC .non) (aNil))))) (sPass)) (sSeq (sAsg (tgTup 2 (tgCons (tgName 3) (tgCons (tgName 5) (tgNil)))) (dCall 3 [] m__law_fits (aCons (dVar 0) (aCons (dVar 3) (aCons (dC (.str "(")) (aNil)))))) (sSeq (sAsg (tgTup 2 (tgCons (tgName 3) (tgCons (tgName 6) (tgNil)))) (dIf (fun ρ => ((dVar 5) ρ).bind asB) (dCall 3 [] m (aCons (dVar 0) (aCons (dVar 3) (aCons (dOp2 addD (dVar 2) (dC (.int 1))) (aNil))))) (dTup (aCons (dVar 3) (aCons (dC .non) (aNil)))))) (sSeq (sIf (fun ρ => (dOp2 (isND false) (dVar 6) (dC .non) ρ).bind asB) (sRet (dTup (aCons (dVar 3) (aCons (dC .non) (aNil))))) (sPass)) (sSeq (sSet 7 (dIf (fun ρ => (dOp2 eqD (dVar 4) (dC (.str "abs")) ρ).bind asB) (dTup (aCons (dC (.str "abs")) (aCons (dVar 6) (aNil)))) (dTup (aCons (dC (.str "call")) (aCons (dVar 4) (aCons (dVar 6) (aNil))))))) (sSeq (sIf (fun ρ => (dOp2 (inD false) (dVar 4) (dTup (aCons (dC (.str "max")) (aCons (dC (.str "min")) (aNil)))) ρ).bind asB) (sSeq (sAsg (tgTup 2 (tgCons (tgName 3) (tgCons (tgName 5) (tgNil)))) (dCall 3 [] m__law_fits (aCons (dVar 0) (aCons (dVar 3) (aCons (dC (.str ", ")) (aNil)))))) (sSeq (sAsg (tgTup 2 (tgCons (tgName 3) (tgCons (tgName 8) (tgNil)))) (dIf (fun ρ => ((dVar 5) ρ).bind asB) (dCall 3 [] m (aCons (dVar 0) (aCons (dVar 3) (aCons (dOp2 addD (dVar 2) (dC (.int 1))) (aNil))))) (dTup (aCons (dVar 3) (aCons (dC .non) (aNil)))))) (sSeq (sIf (fun ρ => (dOp2 (isND false) (dVar 8) (dC .non) ρ).bind asB) (sRet (dTup (aCons (dVar 3) (aCons (dC .non) (aNil))))) (sPass)) (sSet 7 (dTup (aCons (dVar 4) (aCons (dVar 6) (aCons (dVar 8) (aNil))))))))) (sPass)) (sSeq (sAsg (tgTup 2 (tgCons (tgName 3) (tgCons (tgName 5) (tgNil)))) (dCall 3 [] m__law_fits (aCons (dVar 0) (aCons (dVar 3) (aCons (dC (.str ")")) (aNil)))))) (sRet (dTup (aCons (dVar 3) (aCons (dIf (fun ρ => ((dVar 5) ρ).bind asB) (dVar 7) (dC .non)) (aNil)))))))))))))))
def m__law_scan_word (m : SE → R RV) : SE → R RV := mFn n__law_scan_word.length (b__law_scan_word m)
theorem d__law_scan_word {P : Program} {w : World} {base : Heap} {M : Mx} (T : Tx M w) (C__law_at : Cal P w base M "_law_at" 1 2 m__law_at) (C__law_letters : Cal P w base M "_law_letters" 1 0 m__law_letters) (C__law_is_name : Cal P w base M "_law_is_name" 2 1 m__law_is_name) (C__law_fits : Cal P w base M "_law_fits" 2 3 m__law_fits) (k : Nat) (hk : 2 ≤ k) (m : SE → R RV) (C__law_scan : Cal P w base M "_law_scan" k 3 m) {X : Cx} {W : DL.WX} (C : CxF P w base M n__law_scan_word (defScope s__law_scan_word) (k + 0) X W) : DSs X M W (defBody s__law_scan_word) (b__law_scan_word m) :=
  (dss_cons (ds_v C.toCxD 3 (C.st l__law_scan_word._law_end) (de_v C.toCxD 1 v__law_scan_word._law_k)) (dss_cons (ds_while C.ps (dt_w (dw_and (dt_ne (de_callC C.toCxD C__law_at g__law_scan_word._law_at (by omega) (da_cons (de_v C.toCxD 0 v__law_scan_word._law_text_here) (da_cons (de_v C.toCxD 3 v__law_scan_word._law_end) da_nil))) de_str C.toCxD.u64 C.toCxD.hK) (dw_and1 (dt_in (de_callC C.toCxD C__law_at g__law_scan_word._law_at (by omega) (da_cons (de_v C.toCxD 0 v__law_scan_word._law_text_here) (da_cons (de_v C.toCxD 3 v__law_scan_word._law_end) da_nil))) (de_callC0 C.toCxD C__law_letters g__law_scan_word._law_letters (by omega)) C.toCxD.u65 rfl C.toCxD.hK)))) (dss_one (ds_v C.toCxD 3 (C.st l__law_scan_word._law_end) (de_add (de_v C.toCxD 3 v__law_scan_word._law_end) de_int C.toCxD.hK)))) (dss_cons (ds_v C.toCxD 4 (C.st l__law_scan_word._law_word) (de_sl (de_v C.toCxD 0 v__law_scan_word._law_text_here) (do_some (de_v C.toCxD 1 v__law_scan_word._law_k)) (do_some (de_v C.toCxD 3 v__law_scan_word._law_end)) C.toCxD.hK)) (dss_cons (ds_if (dt_eq (de_v C.toCxD 4 v__law_scan_word._law_word) de_str C.toCxD.u64 C.toCxD.hK) (dss_one (ds_ret (de_tup (da_cons (de_v C.toCxD 3 v__law_scan_word._law_end) (da_cons (de_tup (da_cons de_str da_nil)) da_nil))))) dss_nil) (dss_cons (ds_if (dt_w (dw_and (dt_notIn (de_v C.toCxD 4 v__law_scan_word._law_word) (de_tup (da_cons de_str (da_cons de_str (da_cons de_str da_nil)))) C.toCxD.u65 rfl C.toCxD.hK) (dw_and1 (dt_not (dt_val (de_callC C.toCxD C__law_is_name g__law_scan_word._law_is_name (by omega) (da_cons (de_v C.toCxD 4 v__law_scan_word._law_word) da_nil))))))) (dss_one (ds_ret (de_tup (da_cons (de_v C.toCxD 1 v__law_scan_word._law_k) (da_cons de_non da_nil))))) dss_nil) (dss_cons (ds_asg (de_callC C.toCxD C__law_fits g__law_scan_word._law_fits (by omega) (da_cons (de_v C.toCxD 0 v__law_scan_word._law_text_here) (da_cons (de_v C.toCxD 3 v__law_scan_word._law_end) (da_cons de_str da_nil)))) (dg_tup C.toCxD.cm (dgs_cons (dg_v C.toCxD 3 (C.st l__law_scan_word._law_end)) (dgs_cons (dg_v C.toCxD 5 (C.st l__law_scan_word._law_good)) dgs_nil)) rfl rfl C.toCxD.hK)) (dss_cons (ds_asg (de_if (dt_val (de_v C.toCxD 5 v__law_scan_word._law_good)) (de_callC C.toCxD C__law_scan g__law_scan_word._law_scan (by omega) (da_cons (de_v C.toCxD 0 v__law_scan_word._law_text_here) (da_cons (de_v C.toCxD 3 v__law_scan_word._law_end) (da_cons (de_add (de_v C.toCxD 2 v__law_scan_word._law_level) de_int C.toCxD.hK) da_nil)))) (de_tup (da_cons (de_v C.toCxD 3 v__law_scan_word._law_end) (da_cons de_non da_nil)))) (dg_tup C.toCxD.cm (dgs_cons (dg_v C.toCxD 3 (C.st l__law_scan_word._law_end)) (dgs_cons (dg_v C.toCxD 6 (C.st l__law_scan_word._law_first)) dgs_nil)) rfl rfl C.toCxD.hK)) (dss_cons (ds_if (dt_isN (de_v C.toCxD 6 v__law_scan_word._law_first) de_non) (dss_one (ds_ret (de_tup (da_cons (de_v C.toCxD 3 v__law_scan_word._law_end) (da_cons de_non da_nil))))) dss_nil) (dss_cons (ds_v C.toCxD 7 (C.st l__law_scan_word._law_found) (de_if (dt_eq (de_v C.toCxD 4 v__law_scan_word._law_word) de_str C.toCxD.u64 C.toCxD.hK) (de_tup (da_cons de_str (da_cons (de_v C.toCxD 6 v__law_scan_word._law_first) da_nil))) (de_tup (da_cons de_str (da_cons (de_v C.toCxD 4 v__law_scan_word._law_word) (da_cons (de_v C.toCxD 6 v__law_scan_word._law_first) da_nil)))))) (dss_cons (ds_if (dt_in (de_v C.toCxD 4 v__law_scan_word._law_word) (de_tup (da_cons de_str (da_cons de_str da_nil))) C.toCxD.u65 rfl C.toCxD.hK) (dss_cons (ds_asg (de_callC C.toCxD C__law_fits g__law_scan_word._law_fits (by omega) (da_cons (de_v C.toCxD 0 v__law_scan_word._law_text_here) (da_cons (de_v C.toCxD 3 v__law_scan_word._law_end) (da_cons de_str da_nil)))) (dg_tup C.toCxD.cm (dgs_cons (dg_v C.toCxD 3 (C.st l__law_scan_word._law_end)) (dgs_cons (dg_v C.toCxD 5 (C.st l__law_scan_word._law_good)) dgs_nil)) rfl rfl C.toCxD.hK)) (dss_cons (ds_asg (de_if (dt_val (de_v C.toCxD 5 v__law_scan_word._law_good)) (de_callC C.toCxD C__law_scan g__law_scan_word._law_scan (by omega) (da_cons (de_v C.toCxD 0 v__law_scan_word._law_text_here) (da_cons (de_v C.toCxD 3 v__law_scan_word._law_end) (da_cons (de_add (de_v C.toCxD 2 v__law_scan_word._law_level) de_int C.toCxD.hK) da_nil)))) (de_tup (da_cons (de_v C.toCxD 3 v__law_scan_word._law_end) (da_cons de_non da_nil)))) (dg_tup C.toCxD.cm (dgs_cons (dg_v C.toCxD 3 (C.st l__law_scan_word._law_end)) (dgs_cons (dg_v C.toCxD 8 (C.st l__law_scan_word._law_last)) dgs_nil)) rfl rfl C.toCxD.hK)) (dss_cons (ds_if (dt_isN (de_v C.toCxD 8 v__law_scan_word._law_last) de_non) (dss_one (ds_ret (de_tup (da_cons (de_v C.toCxD 3 v__law_scan_word._law_end) (da_cons de_non da_nil))))) dss_nil) (dss_one (ds_v C.toCxD 7 (C.st l__law_scan_word._law_found) (de_tup (da_cons (de_v C.toCxD 4 v__law_scan_word._law_word) (da_cons (de_v C.toCxD 6 v__law_scan_word._law_first) (da_cons (de_v C.toCxD 8 v__law_scan_word._law_last) da_nil))))))))) dss_nil) (dss_cons (ds_asg (de_callC C.toCxD C__law_fits g__law_scan_word._law_fits (by omega) (da_cons (de_v C.toCxD 0 v__law_scan_word._law_text_here) (da_cons (de_v C.toCxD 3 v__law_scan_word._law_end) (da_cons de_str da_nil)))) (dg_tup C.toCxD.cm (dgs_cons (dg_v C.toCxD 3 (C.st l__law_scan_word._law_end)) (dgs_cons (dg_v C.toCxD 5 (C.st l__law_scan_word._law_good)) dgs_nil)) rfl rfl C.toCxD.hK)) (dss_one (ds_ret (de_tup (da_cons (de_v C.toCxD 3 v__law_scan_word._law_end) (da_cons (de_if (dt_val (de_v C.toCxD 5 v__law_scan_word._law_good)) (de_v C.toCxD 7 v__law_scan_word._law_found) de_non) da_nil))))))))))))))))
theorem ok__law_scan_word {P : Program} {w : World} {base : Heap} {M : Mx} (T : Tx M w) (Dx : DefAt M "_law_scan_word" s__law_scan_word ["_law_text_here", "_law_k", "_law_level"]) (C__law_at : Cal P w base M "_law_at" 1 2 m__law_at) (C__law_letters : Cal P w base M "_law_letters" 1 0 m__law_letters) (C__law_is_name : Cal P w base M "_law_is_name" 2 1 m__law_is_name) (C__law_fits : Cal P w base M "_law_fits" 2 3 m__law_fits) (k : Nat) (hk : 2 ≤ k) (m : SE → R RV) (C__law_scan : Cal P w base M "_law_scan" k 3 m) : FnOk P w M.K M.mg base (L2.CX P w) (k + 1) Dx.f Dx.fd ["_law_text_here", "_law_k", "_law_level"] (spD M 3 (m__law_scan_word m)) := by
  have h : ∀ (cdv : Value) (A : Around) (outer : List Env) (s : Shared) (H : Hp) (E : XK), Room (k + 0) (A.deeper (envOfC "_law_scan_word" (defScope s__law_scan_word) s.heap.objs.size Dx.f cdv)) → DSs (cxOf (L2.CX P w) P w M.K M.mg base n__law_scan_word "_law_scan_word" (defScope s__law_scan_word) Dx.f cdv A outer s H E) M (fun cls d _ H' => E cls d H') (defBody s__law_scan_word) (b__law_scan_word m) := fun cdv A outer s H E hr => d__law_scan_word T C__law_at C__law_letters C__law_is_name C__law_fits k hk m C__law_scan (cxF_of sc__law_scan_word hr)
  exact fn_D Dx.fu sc__law_scan_word h
def cal__law_scan_word {P : Program} {w : World} {base : Heap} {M : Mx} (T : Tx M w) (Dx : DefAt M "_law_scan_word" s__law_scan_word ["_law_text_here", "_law_k", "_law_level"]) (C__law_at : Cal P w base M "_law_at" 1 2 m__law_at) (C__law_letters : Cal P w base M "_law_letters" 1 0 m__law_letters) (C__law_is_name : Cal P w base M "_law_is_name" 2 1 m__law_is_name) (C__law_fits : Cal P w base M "_law_fits" 2 3 m__law_fits) (k : Nat) (hk : 2 ≤ k) (m : SE → R RV) (C__law_scan : Cal P w base M "_law_scan" k 3 m) : Cal P w base M "_law_scan_word" (k + 1) 3 (m__law_scan_word m) := Dx.cal (ok__law_scan_word (P := P) (base := base) T Dx C__law_at C__law_letters C__law_is_name C__law_fits k hk m C__law_scan)
abbrev s__law_figures : Stmt := topS 43
abbrev n__law_figures : List Str := ["_law_text_here", "_law_k", "_law_end", "_law_more"]
theorem sc__law_figures : FnScope n__law_figures ["_law_text_here", "_law_k"] (defScope s__law_figures) := ⟨rfl, rfl, rfl, by decide +kernel, rfl, by decide +kernel, by decide +kernel⟩
structure V__law_figures : Prop where
  _law_k : NameOk (defScope s__law_figures) "_law_k"
  _law_end : NameOk (defScope s__law_figures) "_law_end"
  _law_text_here : NameOk (defScope s__law_figures) "_law_text_here"
  _law_more : NameOk (defScope s__law_figures) "_law_more"
theorem v__law_figures : V__law_figures := ⟨⟨by unfold Vis; decide +kernel, by decide +kernel, by decide +kernel⟩, ⟨by unfold Vis; decide +kernel, by decide +kernel, by decide +kernel⟩, ⟨by unfold Vis; decide +kernel, by decide +kernel, by decide +kernel⟩, ⟨by unfold Vis; decide +kernel, by decide +kernel, by decide +kernel⟩⟩
structure L__law_figures : Prop where
  _law_end : L2.Loc (defScope s__law_figures) "_law_end"
  _law_more : L2.Loc (defScope s__law_figures) "_law_more"
theorem l__law_figures : L__law_figures := ⟨by unfold L2.Loc; decide +kernel, by unfold L2.Loc; decide +kernel⟩
structure G__law_figures : Prop where
  _law_at : GlOk (defScope s__law_figures) "_law_at"
theorem g__law_figures : G__law_figures := ⟨⟨by decide +kernel, by decide +kernel, by decide +kernel⟩⟩
def b__law_figures : DM Fl := sSeq (sSet 2 (dVar 1)) (sSeq (sWhile (dAndT (fun ρ => (dOp2 ltD (dVar 2) (dOp2 addD (dVar 1) (dC (.int 6))) ρ).bind asB) (dAndT (fun ρ => (dOp2 neD (dCall 2 [] m__law_at (aCons (dVar 0) (aCons (dVar 2) (aNil)))) (dC (.str "")) ρ).bind asB) (dAndT (fun ρ => (dOp2 (inD false) (dCall 2 [] m__law_at (aCons (dVar 0) (aCons (dVar 2) (aNil)))) (dC (.str "0123456789")) ρ).bind asB) (fun ρ => (dOp2 neD (dSl (dVar 0) (oSome (dVar 1)) (oSome (dVar 2))) (dC (.str "0")) ρ).bind asB)))) (sSet 2 (dOp2 addD (dVar 2) (dC (.int 1))))) (sSeq (sSet 3 (dAnd (dOp2 neD (dCall 2 [] m__law_at (aCons (dVar 0) (aCons (dVar 2) (aNil)))) (dC (.str ""))) (dOp2 (inD false) (dCall 2 [] m__law_at (aCons (dVar 0) (aCons (dVar 2) (aNil)))) (dC (.str "0123456789"))))) (sRet (dTup (aCons (dVar 2) (aCons (dAnd (dOp2 gtD (dVar 2) (dVar 1)) (dNot (dVar 3))) (aNil)))))))
def m__law_figures : SE → R RV := mFn n__law_figures.length b__law_figures
theorem d__law_figures {P : Program} {w : World} {base : Heap} {M : Mx} (T : Tx M w) (C__law_at : Cal P w base M "_law_at" 1 2 m__law_at) {X : Cx} {W : DL.WX} (C : CxF P w base M n__law_figures (defScope s__law_figures) 1 X W) : DSs X M W (defBody s__law_figures) b__law_figures :=
  (dss_cons (ds_v C.toCxD 2 (C.st l__law_figures._law_end) (de_v C.toCxD 1 v__law_figures._law_k)) (dss_cons (ds_while C.ps (dt_w (dw_and (dt_lt (de_v C.toCxD 2 v__law_figures._law_end) (de_add (de_v C.toCxD 1 v__law_figures._law_k) de_int C.toCxD.hK)) (dw_and (dt_ne (de_callC C.toCxD C__law_at g__law_figures._law_at (by decide) (da_cons (de_v C.toCxD 0 v__law_figures._law_text_here) (da_cons (de_v C.toCxD 2 v__law_figures._law_end) da_nil))) de_str C.toCxD.u64 C.toCxD.hK) (dw_and (dt_in (de_callC C.toCxD C__law_at g__law_figures._law_at (by decide) (da_cons (de_v C.toCxD 0 v__law_figures._law_text_here) (da_cons (de_v C.toCxD 2 v__law_figures._law_end) da_nil))) de_str C.toCxD.u65 rfl C.toCxD.hK) (dw_and1 (dt_ne (de_sl (de_v C.toCxD 0 v__law_figures._law_text_here) (do_some (de_v C.toCxD 1 v__law_figures._law_k)) (do_some (de_v C.toCxD 2 v__law_figures._law_end)) C.toCxD.hK) de_str C.toCxD.u64 C.toCxD.hK)))))) (dss_one (ds_v C.toCxD 2 (C.st l__law_figures._law_end) (de_add (de_v C.toCxD 2 v__law_figures._law_end) de_int C.toCxD.hK)))) (dss_cons (ds_v C.toCxD 3 (C.st l__law_figures._law_more) (de_and (de_ne (de_callC C.toCxD C__law_at g__law_figures._law_at (by decide) (da_cons (de_v C.toCxD 0 v__law_figures._law_text_here) (da_cons (de_v C.toCxD 2 v__law_figures._law_end) da_nil))) de_str C.toCxD.u64 C.toCxD.hK) (de_one (de_in (de_callC C.toCxD C__law_at g__law_figures._law_at (by decide) (da_cons (de_v C.toCxD 0 v__law_figures._law_text_here) (da_cons (de_v C.toCxD 2 v__law_figures._law_end) da_nil))) de_str C.toCxD.u65 rfl C.toCxD.hK)))) (dss_one (ds_ret (de_tup (da_cons (de_v C.toCxD 2 v__law_figures._law_end) (da_cons (de_and (de_gt (de_v C.toCxD 2 v__law_figures._law_end) (de_v C.toCxD 1 v__law_figures._law_k)) (de_one (de_not (de_v C.toCxD 3 v__law_figures._law_more)))) da_nil))))))))
theorem ok__law_figures {P : Program} {w : World} {base : Heap} {M : Mx} (T : Tx M w) (Dx : DefAt M "_law_figures" s__law_figures ["_law_text_here", "_law_k"]) (C__law_at : Cal P w base M "_law_at" 1 2 m__law_at) : FnOk P w M.K M.mg base (L2.CX P w) 2 Dx.f Dx.fd ["_law_text_here", "_law_k"] (spD M 2 m__law_figures) := by
  have h : ∀ (cdv : Value) (A : Around) (outer : List Env) (s : Shared) (H : Hp) (E : XK), Room 1 (A.deeper (envOfC "_law_figures" (defScope s__law_figures) s.heap.objs.size Dx.f cdv)) → DSs (cxOf (L2.CX P w) P w M.K M.mg base n__law_figures "_law_figures" (defScope s__law_figures) Dx.f cdv A outer s H E) M (fun cls d _ H' => E cls d H') (defBody s__law_figures) b__law_figures := fun cdv A outer s H E hr => d__law_figures T C__law_at (cxF_of sc__law_figures hr)
  exact fn_D Dx.fu sc__law_figures h
def cal__law_figures {P : Program} {w : World} {base : Heap} {M : Mx} (T : Tx M w) (Dx : DefAt M "_law_figures" s__law_figures ["_law_text_here", "_law_k"]) (C__law_at : Cal P w base M "_law_at" 1 2 m__law_at) : Cal P w base M "_law_figures" 2 2 m__law_figures := Dx.cal (ok__law_figures (P := P) (base := base) T Dx C__law_at)
abbrev s__law_scan_fraction : Stmt := topS 44
abbrev n__law_scan_fraction : List Str := ["_law_text_here", "_law_k", "_law_begin_here", "_law_end", "_law_good", "_law_last", "_law_pair"]
theorem sc__law_scan_fraction : FnScope n__law_scan_fraction ["_law_text_here", "_law_k"] (defScope s__law_scan_fraction) := ⟨rfl, rfl, rfl, by decide +kernel, rfl, by decide +kernel, by decide +kernel⟩
structure V__law_scan_fraction : Prop where
  _law_k : NameOk (defScope s__law_scan_fraction) "_law_k"
  _law_text_here : NameOk (defScope s__law_scan_fraction) "_law_text_here"
  _law_begin_here : NameOk (defScope s__law_scan_fraction) "_law_begin_here"
  _law_good : NameOk (defScope s__law_scan_fraction) "_law_good"
  _law_end : NameOk (defScope s__law_scan_fraction) "_law_end"
  _law_last : NameOk (defScope s__law_scan_fraction) "_law_last"
  _law_pair : NameOk (defScope s__law_scan_fraction) "_law_pair"
theorem v__law_scan_fraction : V__law_scan_fraction := ⟨⟨by unfold Vis; decide +kernel, by decide +kernel, by decide +kernel⟩, ⟨by unfold Vis; decide +kernel, by decide +kernel, by decide +kernel⟩, ⟨by unfold Vis; decide +kernel, by decide +kernel, by decide +kernel⟩, ⟨by unfold Vis; decide +kernel, by decide +kernel, by decide +kernel⟩, ⟨by unfold Vis; decide +kernel, by decide +kernel, by decide +kernel⟩, ⟨by unfold Vis; decide +kernel, by decide +kernel, by decide +kernel⟩, ⟨by unfold Vis; decide +kernel, by decide +kernel, by decide +kernel⟩⟩
structure L__law_scan_fraction : Prop where
  _law_begin_here : L2.Loc (defScope s__law_scan_fraction) "_law_begin_here"
  _law_good : L2.Loc (defScope s__law_scan_fraction) "_law_good"
  _law_end : L2.Loc (defScope s__law_scan_fraction) "_law_end"
  _law_last : L2.Loc (defScope s__law_scan_fraction) "_law_last"
  _law_pair : L2.Loc (defScope s__law_scan_fraction) "_law_pair"
theorem l__law_scan_fraction : L__law_scan_fraction := ⟨by unfold L2.Loc; decide +kernel, by unfold L2.Loc; decide +kernel, by unfold L2.Loc; decide +kernel, by unfold L2.Loc; decide +kernel, by unfold L2.Loc; decide +kernel⟩
structure G__law_scan_fraction : Prop where
  _law_at : GlOk (defScope s__law_scan_fraction) "_law_at"
  int : GlOk (defScope s__law_scan_fraction) "int"
  _law_figures : GlOk (defScope s__law_scan_fraction) "_law_figures"
  _law_lowest : GlOk (defScope s__law_scan_fraction) "_law_lowest"
theorem g__law_scan_fraction : G__law_scan_fraction := ⟨⟨by decide +kernel, by decide +kernel, by decide +kernel⟩, ⟨by decide +kernel, by decide +kernel, by decide +kernel⟩, ⟨by decide +kernel, by decide +kernel, by decide +kernel⟩, ⟨by decide +kernel, by decide +kernel, by decide +kernel⟩⟩
def b__law_scan_fraction : DM Fl := sSeq (sSet 2 (dOp2 addD (dVar 1) (dCb gIntN (vCons (dOp2 eqD (dCall 2 [] m__law_at (aCons (dVar 0) (aCons (dVar 1) (aNil)))) (dC (.str "-"))) (vNil))))) (sSeq (sIf (dAndT (fun ρ => (dOp2 gtD (dVar 2) (dVar 1) ρ).bind asB) (fun ρ => (dOp2 eqD (dCall 2 [] m__law_at (aCons (dVar 0) (aCons (dVar 2) (aNil)))) (dC (.str "0")) ρ).bind asB)) (sRet (dTup (aCons (dVar 2) (aCons (dC .non) (aNil))))) (sPass)) (sSeq (sAsg (tgTup 2 (tgCons (tgName 3) (tgCons (tgName 4) (tgNil)))) (dCall 2 [] m__law_figures (aCons (dVar 0) (aCons (dVar 2) (aNil))))) (sSeq (sIf (dNotT (fun ρ => ((dVar 4) ρ).bind asB)) (sRet (dTup (aCons (dVar 3) (aCons (dC .non) (aNil))))) (sPass)) (sSeq (sIf (fun ρ => (dOp2 neD (dCall 2 [] m__law_at (aCons (dVar 0) (aCons (dVar 3) (aNil)))) (dC (.str "/")) ρ).bind asB) (sRet (dTup (aCons (dVar 3) (aCons (dTup (aCons (dCb gInt (vCons (dSl (dVar 0) (oSome (dVar 1)) (oSome (dVar 3))) (vNil))) (aCons (dC (.int 1)) (aNil)))) (aNil))))) (sPass)) (sSeq (sAsg (tgTup 2 (tgCons (tgName 5) (tgCons (tgName 4) (tgNil)))) (dCall 2 [] m__law_figures (aCons (dVar 0) (aCons (dOp2 addD (dVar 3) (dC (.int 1))) (aNil))))) (sSeq (sIf (dNotT (fun ρ => ((dVar 4) ρ).bind asB)) (sRet (dTup (aCons (dVar 5) (aCons (dC .non) (aNil))))) (sPass)) (sSeq (sSet 6 (dTup (aCons (dCb gInt (vCons (dSl (dVar 0) (oSome (dVar 1)) (oSome (dVar 3))) (vNil))) (aCons (dCb gInt (vCons (dSl (dVar 0) (oSome (dOp2 addD (dVar 3) (dC (.int 1)))) (oSome (dVar 5))) (vNil))) (aNil))))) (sSeq (sIf (dOrT (fun ρ => (dOp2 ltD (dOp2 ixD (dVar 6) (dC (.int 1))) (dC (.int 2)) ρ).bind asB) (fun ρ => (dOp2 neD (dCall 2 [] m__law_lowest (aCons (dOp2 ixD (dVar 6) (dC (.int 0))) (aCons (dOp2 ixD (dVar 6) (dC (.int 1))) (aNil)))) (dVar 6) ρ).bind asB)) (sRet (dTup (aCons (dOp2 addD (dVar 3) (dC (.int 1))) (aCons (dC .non) (aNil))))) (sPass)) (sRet (dTup (aCons (dVar 5) (aCons (dVar 6) (aNil)))))))))))))
def m__law_scan_fraction : SE → R RV := mFn n__law_scan_fraction.length b__law_scan_fraction
theorem d__law_scan_fraction {P : Program} {w : World} {base : Heap} {M : Mx} (T : Tx M w) (C__law_at : Cal P w base M "_law_at" 1 2 m__law_at) (C__law_figures : Cal P w base M "_law_figures" 2 2 m__law_figures) (C__law_lowest : Cal P w base M "_law_lowest" 1 2 m__law_lowest) {X : Cx} {W : DL.WX} (C : CxF P w base M n__law_scan_fraction (defScope s__law_scan_fraction) 2 X W) : DSs X M W (defBody s__law_scan_fraction) b__law_scan_fraction :=
  (dss_cons (ds_v C.toCxD 2 (C.st l__law_scan_fraction._law_begin_here) (de_add (de_v C.toCxD 1 v__law_scan_fraction._law_k) (de_intNF C.toCxD g__law_scan_fraction.int T.z_int (dv_cons (de_eq (de_callC C.toCxD C__law_at g__law_scan_fraction._law_at (by decide) (da_cons (de_v C.toCxD 0 v__law_scan_fraction._law_text_here) (da_cons (de_v C.toCxD 1 v__law_scan_fraction._law_k) da_nil))) de_str C.toCxD.u64 C.toCxD.hK) dv_nil)) C.toCxD.hK)) (dss_cons (ds_if (dt_w (dw_and (dt_gt (de_v C.toCxD 2 v__law_scan_fraction._law_begin_here) (de_v C.toCxD 1 v__law_scan_fraction._law_k)) (dw_and1 (dt_eq (de_callC C.toCxD C__law_at g__law_scan_fraction._law_at (by decide) (da_cons (de_v C.toCxD 0 v__law_scan_fraction._law_text_here) (da_cons (de_v C.toCxD 2 v__law_scan_fraction._law_begin_here) da_nil))) de_str C.toCxD.u64 C.toCxD.hK)))) (dss_one (ds_ret (de_tup (da_cons (de_v C.toCxD 2 v__law_scan_fraction._law_begin_here) (da_cons de_non da_nil))))) dss_nil) (dss_cons (ds_asg (de_callC C.toCxD C__law_figures g__law_scan_fraction._law_figures (by decide) (da_cons (de_v C.toCxD 0 v__law_scan_fraction._law_text_here) (da_cons (de_v C.toCxD 2 v__law_scan_fraction._law_begin_here) da_nil))) (dg_tup C.toCxD.cm (dgs_cons (dg_v C.toCxD 3 (C.st l__law_scan_fraction._law_end)) (dgs_cons (dg_v C.toCxD 4 (C.st l__law_scan_fraction._law_good)) dgs_nil)) rfl rfl C.toCxD.hK)) (dss_cons (ds_if (dt_not (dt_val (de_v C.toCxD 4 v__law_scan_fraction._law_good))) (dss_one (ds_ret (de_tup (da_cons (de_v C.toCxD 3 v__law_scan_fraction._law_end) (da_cons de_non da_nil))))) dss_nil) (dss_cons (ds_if (dt_ne (de_callC C.toCxD C__law_at g__law_scan_fraction._law_at (by decide) (da_cons (de_v C.toCxD 0 v__law_scan_fraction._law_text_here) (da_cons (de_v C.toCxD 3 v__law_scan_fraction._law_end) da_nil))) de_str C.toCxD.u64 C.toCxD.hK) (dss_one (ds_ret (de_tup (da_cons (de_v C.toCxD 3 v__law_scan_fraction._law_end) (da_cons (de_tup (da_cons (de_intF C.toCxD g__law_scan_fraction.int T.z_int (dv_cons (de_sl (de_v C.toCxD 0 v__law_scan_fraction._law_text_here) (do_some (de_v C.toCxD 1 v__law_scan_fraction._law_k)) (do_some (de_v C.toCxD 3 v__law_scan_fraction._law_end)) C.toCxD.hK) dv_nil)) (da_cons de_int da_nil))) da_nil))))) dss_nil) (dss_cons (ds_asg (de_callC C.toCxD C__law_figures g__law_scan_fraction._law_figures (by decide) (da_cons (de_v C.toCxD 0 v__law_scan_fraction._law_text_here) (da_cons (de_add (de_v C.toCxD 3 v__law_scan_fraction._law_end) de_int C.toCxD.hK) da_nil))) (dg_tup C.toCxD.cm (dgs_cons (dg_v C.toCxD 5 (C.st l__law_scan_fraction._law_last)) (dgs_cons (dg_v C.toCxD 4 (C.st l__law_scan_fraction._law_good)) dgs_nil)) rfl rfl C.toCxD.hK)) (dss_cons (ds_if (dt_not (dt_val (de_v C.toCxD 4 v__law_scan_fraction._law_good))) (dss_one (ds_ret (de_tup (da_cons (de_v C.toCxD 5 v__law_scan_fraction._law_last) (da_cons de_non da_nil))))) dss_nil) (dss_cons (ds_v C.toCxD 6 (C.st l__law_scan_fraction._law_pair) (de_tup (da_cons (de_intF C.toCxD g__law_scan_fraction.int T.z_int (dv_cons (de_sl (de_v C.toCxD 0 v__law_scan_fraction._law_text_here) (do_some (de_v C.toCxD 1 v__law_scan_fraction._law_k)) (do_some (de_v C.toCxD 3 v__law_scan_fraction._law_end)) C.toCxD.hK) dv_nil)) (da_cons (de_intF C.toCxD g__law_scan_fraction.int T.z_int (dv_cons (de_sl (de_v C.toCxD 0 v__law_scan_fraction._law_text_here) (do_some (de_add (de_v C.toCxD 3 v__law_scan_fraction._law_end) de_int C.toCxD.hK)) (do_some (de_v C.toCxD 5 v__law_scan_fraction._law_last)) C.toCxD.hK) dv_nil)) da_nil)))) (dss_cons (ds_if (dt_w (dw_or (dt_lt (de_ix (de_v C.toCxD 6 v__law_scan_fraction._law_pair) de_int (fun _ _ => rfl) C.toCxD.hK) de_int) (dw_or1 (dt_ne (de_callC C.toCxD C__law_lowest g__law_scan_fraction._law_lowest (by decide) (da_cons (de_ix (de_v C.toCxD 6 v__law_scan_fraction._law_pair) de_int (fun _ _ => rfl) C.toCxD.hK) (da_cons (de_ix (de_v C.toCxD 6 v__law_scan_fraction._law_pair) de_int (fun _ _ => rfl) C.toCxD.hK) da_nil))) (de_v C.toCxD 6 v__law_scan_fraction._law_pair) C.toCxD.u64 C.toCxD.hK)))) (dss_one (ds_ret (de_tup (da_cons (de_add (de_v C.toCxD 3 v__law_scan_fraction._law_end) de_int C.toCxD.hK) (da_cons de_non da_nil))))) dss_nil) (dss_one (ds_ret (de_tup (da_cons (de_v C.toCxD 5 v__law_scan_fraction._law_last) (da_cons (de_v C.toCxD 6 v__law_scan_fraction._law_pair) da_nil))))))))))))))
theorem ok__law_scan_fraction {P : Program} {w : World} {base : Heap} {M : Mx} (T : Tx M w) (Dx : DefAt M "_law_scan_fraction" s__law_scan_fraction ["_law_text_here", "_law_k"]) (C__law_at : Cal P w base M "_law_at" 1 2 m__law_at) (C__law_figures : Cal P w base M "_law_figures" 2 2 m__law_figures) (C__law_lowest : Cal P w base M "_law_lowest" 1 2 m__law_lowest) : FnOk P w M.K M.mg base (L2.CX P w) 3 Dx.f Dx.fd ["_law_text_here", "_law_k"] (spD M 2 m__law_scan_fraction) := by
  have h : ∀ (cdv : Value) (A : Around) (outer : List Env) (s : Shared) (H : Hp) (E : XK), Room 2 (A.deeper (envOfC "_law_scan_fraction" (defScope s__law_scan_fraction) s.heap.objs.size Dx.f cdv)) → DSs (cxOf (L2.CX P w) P w M.K M.mg base n__law_scan_fraction "_law_scan_fraction" (defScope s__law_scan_fraction) Dx.f cdv A outer s H E) M (fun cls d _ H' => E cls d H') (defBody s__law_scan_fraction) b__law_scan_fraction := fun cdv A outer s H E hr => d__law_scan_fraction T C__law_at C__law_figures C__law_lowest (cxF_of sc__law_scan_fraction hr)
  exact fn_D Dx.fu sc__law_scan_fraction h
def cal__law_scan_fraction {P : Program} {w : World} {base : Heap} {M : Mx} (T : Tx M w) (Dx : DefAt M "_law_scan_fraction" s__law_scan_fraction ["_law_text_here", "_law_k"]) (C__law_at : Cal P w base M "_law_at" 1 2 m__law_at) (C__law_figures : Cal P w base M "_law_figures" 2 2 m__law_figures) (C__law_lowest : Cal P w base M "_law_lowest" 1 2 m__law_lowest) : Cal P w base M "_law_scan_fraction" 3 2 m__law_scan_fraction := Dx.cal (ok__law_scan_fraction (P := P) (base := base) T Dx C__law_at C__law_figures C__law_lowest)
abbrev s__law_scan : Stmt := topS 47
abbrev n__law_scan : List Str := ["_law_text_here", "_law_k", "_law_level", "_law_char", "_law_end", "_law_value", "_law_part"]
theorem sc__law_scan : FnScope n__law_scan ["_law_text_here", "_law_k", "_law_level"] (defScope s__law_scan) := ⟨rfl, rfl, rfl, by decide +kernel, rfl, by decide +kernel, by decide +kernel⟩
structure V__law_scan : Prop where
  _law_k : NameOk (defScope s__law_scan) "_law_k"
  _law_text_here : NameOk (defScope s__law_scan) "_law_text_here"
  _law_level : NameOk (defScope s__law_scan) "_law_level"
  _law_char : NameOk (defScope s__law_scan) "_law_char"
  _law_value : NameOk (defScope s__law_scan) "_law_value"
  _law_end : NameOk (defScope s__law_scan) "_law_end"
  _law_part : NameOk (defScope s__law_scan) "_law_part"
theorem v__law_scan : V__law_scan := ⟨⟨by unfold Vis; decide +kernel, by decide +kernel, by decide +kernel⟩, ⟨by unfold Vis; decide +kernel, by decide +kernel, by decide +kernel⟩, ⟨by unfold Vis; decide +kernel, by decide +kernel, by decide +kernel⟩, ⟨by unfold Vis; decide +kernel, by decide +kernel, by decide +kernel⟩, ⟨by unfold Vis; decide +kernel, by decide +kernel, by decide +kernel⟩, ⟨by unfold Vis; decide +kernel, by decide +kernel, by decide +kernel⟩, ⟨by unfold Vis; decide +kernel, by decide +kernel, by decide +kernel⟩⟩
structure L__law_scan : Prop where
  _law_char : L2.Loc (defScope s__law_scan) "_law_char"
  _law_value : L2.Loc (defScope s__law_scan) "_law_value"
  _law_end : L2.Loc (defScope s__law_scan) "_law_end"
  _law_part : L2.Loc (defScope s__law_scan) "_law_part"
theorem l__law_scan : L__law_scan := ⟨by unfold L2.Loc; decide +kernel, by unfold L2.Loc; decide +kernel, by unfold L2.Loc; decide +kernel, by unfold L2.Loc; decide +kernel⟩
structure G__law_scan : Prop where
  _law_at : GlOk (defScope s__law_scan) "_law_at"
  _law_scan_pair : GlOk (defScope s__law_scan) "_law_scan_pair"
  _law_letters : GlOk (defScope s__law_scan) "_law_letters"
  _law_scan_word : GlOk (defScope s__law_scan) "_law_scan_word"
  _law_scan_fraction : GlOk (defScope s__law_scan) "_law_scan_fraction"
  _law_scan : GlOk (defScope s__law_scan) "_law_scan"
theorem g__law_scan : G__law_scan := ⟨⟨by decide +kernel, by decide +kernel, by decide +kernel⟩, ⟨by decide +kernel, by decide +kernel, by decide +kernel⟩, ⟨by decide +kernel, by decide +kernel, by decide +kernel⟩, ⟨by decide +kernel, by decide +kernel, by decide +kernel⟩, ⟨by decide +kernel, by decide +kernel, by decide +kernel⟩, ⟨by decide +kernel, by decide +kernel, by decide +kernel⟩⟩
def b__law_scan (m : SE → R RV) : DM Fl := sSeq (sSet 3 (dCall 2 [] m__law_at (aCons (dVar 0) (aCons (dVar 1) (aNil))))) (sSeq (sIf (dOrT (fun ρ => (dOp2 gtD (dVar 2) (dC (.int 12)) ρ).bind asB) (fun ρ => (dOp2 eqD (dVar 3) (dC (.str "")) ρ).bind asB)) (sRet (dTup (aCons (dVar 1) (aCons (dC .non) (aNil))))) (sPass)) (sSeq (sIf (fun ρ => (dOp2 eqD (dVar 3) (dC (.str "(")) ρ).bind asB) (sRet (dCall 3 [] (m__law_scan_pair m) (aCons (dVar 0) (aCons (dVar 1) (aCons (dVar 2) (aNil)))))) (sPass)) (sSeq (sIf (fun ρ => (dOp2 (inD false) (dVar 3) (dCall 0 [] m__law_letters aNil) ρ).bind asB) (sRet (dCall 3 [] (m__law_scan_word m) (aCons (dVar 0) (aCons (dVar 1) (aCons (dVar 2) (aNil)))))) (sPass)) (sSeq (sIf (fun ρ => (dOp2 (inD true) (dVar 3) (dC (.str "0123456789-")) ρ).bind asB) (sRet (dTup (aCons (dVar 1) (aCons (dC .non) (aNil))))) (sPass)) (sSeq (sAsg (tgTup 2 (tgCons (tgName 4) (tgCons (tgName 5) (tgNil)))) (dCall 2 [] m__law_scan_fraction (aCons (dVar 0) (aCons (dVar 1) (aNil))))) (sSeq (sIf (dOrT (fun ρ => (dOp2 (isND false) (dVar 5) (dC .non) ρ).bind asB) (fun ρ => (dOp2 neD (dCall 2 [] m__law_at (aCons (dVar 0) (aCons (dVar 4) (aNil)))) (dC (.str "*")) ρ).bind asB)) (sRet (dTup (aCons (dVar 4) (aCons (dIf (fun ρ => (dOp2 (isND false) (dVar 5) (dC .non) ρ).bind asB) (dC .non) (dTup (aCons (dC (.str "number")) (aCons (dVar 5) (aNil))))) (aNil))))) (sPass)) (sSeq (sAsg (tgTup 2 (tgCons (tgName 4) (tgCons (tgName 6) (tgNil)))) (dCall 3 [] m (aCons (dVar 0) (aCons (dOp2 addD (dVar 4) (dC (.int 1))) (aCons (dOp2 addD (dVar 2) (dC (.int 1))) (aNil)))))) (sRet (dTup (aCons (dVar 4) (aCons (dIf (fun ρ => (dOp2 (isND false) (dVar 6) (dC .non) ρ).bind asB) (dC .non) (dTup (aCons (dC (.str "multiple")) (aCons (dVar 5) (aCons (dVar 6) (aNil)))))) (aNil))))))))))))
def m__law_scan : Nat → SE → R RV
  | 0 => mBad
  | n + 1 => mFn n__law_scan.length (b__law_scan (m__law_scan n))
theorem d__law_scan {P : Program} {w : World} {base : Heap} {M : Mx} (T : Tx M w) (C__law_at : Cal P w base M "_law_at" 1 2 m__law_at) (C__law_letters : Cal P w base M "_law_letters" 1 0 m__law_letters) (C__law_scan_fraction : Cal P w base M "_law_scan_fraction" 3 2 m__law_scan_fraction) (k : Nat) (hk : 3 ≤ k) (m : SE → R RV) (C__law_scan : Cal P w base M "_law_scan" k 3 m) (C__law_scan_pair : Cal P w base M "_law_scan_pair" (k + 1) 3 (m__law_scan_pair m)) (C__law_scan_word : Cal P w base M "_law_scan_word" (k + 1) 3 (m__law_scan_word m)) {X : Cx} {W : DL.WX} (C : CxF P w base M n__law_scan (defScope s__law_scan) (k + 1) X W) : DSs X M W (defBody s__law_scan) (b__law_scan m) :=
  (dss_cons (ds_v C.toCxD 3 (C.st l__law_scan._law_char) (de_callC C.toCxD C__law_at g__law_scan._law_at (by omega) (da_cons (de_v C.toCxD 0 v__law_scan._law_text_here) (da_cons (de_v C.toCxD 1 v__law_scan._law_k) da_nil)))) (dss_cons (ds_if (dt_w (dw_or (dt_gt (de_v C.toCxD 2 v__law_scan._law_level) de_int) (dw_or1 (dt_eq (de_v C.toCxD 3 v__law_scan._law_char) de_str C.toCxD.u64 C.toCxD.hK)))) (dss_one (ds_ret (de_tup (da_cons (de_v C.toCxD 1 v__law_scan._law_k) (da_cons de_non da_nil))))) dss_nil) (dss_cons (ds_if (dt_eq (de_v C.toCxD 3 v__law_scan._law_char) de_str C.toCxD.u64 C.toCxD.hK) (dss_one (ds_ret (de_callC C.toCxD C__law_scan_pair g__law_scan._law_scan_pair (by omega) (da_cons (de_v C.toCxD 0 v__law_scan._law_text_here) (da_cons (de_v C.toCxD 1 v__law_scan._law_k) (da_cons (de_v C.toCxD 2 v__law_scan._law_level) da_nil)))))) dss_nil) (dss_cons (ds_if (dt_in (de_v C.toCxD 3 v__law_scan._law_char) (de_callC0 C.toCxD C__law_letters g__law_scan._law_letters (by omega)) C.toCxD.u65 rfl C.toCxD.hK) (dss_one (ds_ret (de_callC C.toCxD C__law_scan_word g__law_scan._law_scan_word (by omega) (da_cons (de_v C.toCxD 0 v__law_scan._law_text_here) (da_cons (de_v C.toCxD 1 v__law_scan._law_k) (da_cons (de_v C.toCxD 2 v__law_scan._law_level) da_nil)))))) dss_nil) (dss_cons (ds_if (dt_notIn (de_v C.toCxD 3 v__law_scan._law_char) de_str C.toCxD.u65 rfl C.toCxD.hK) (dss_one (ds_ret (de_tup (da_cons (de_v C.toCxD 1 v__law_scan._law_k) (da_cons de_non da_nil))))) dss_nil) (dss_cons (ds_asg (de_callC C.toCxD C__law_scan_fraction g__law_scan._law_scan_fraction (by omega) (da_cons (de_v C.toCxD 0 v__law_scan._law_text_here) (da_cons (de_v C.toCxD 1 v__law_scan._law_k) da_nil))) (dg_tup C.toCxD.cm (dgs_cons (dg_v C.toCxD 4 (C.st l__law_scan._law_end)) (dgs_cons (dg_v C.toCxD 5 (C.st l__law_scan._law_value)) dgs_nil)) rfl rfl C.toCxD.hK)) (dss_cons (ds_if (dt_w (dw_or (dt_isN (de_v C.toCxD 5 v__law_scan._law_value) de_non) (dw_or1 (dt_ne (de_callC C.toCxD C__law_at g__law_scan._law_at (by omega) (da_cons (de_v C.toCxD 0 v__law_scan._law_text_here) (da_cons (de_v C.toCxD 4 v__law_scan._law_end) da_nil))) de_str C.toCxD.u64 C.toCxD.hK)))) (dss_one (ds_ret (de_tup (da_cons (de_v C.toCxD 4 v__law_scan._law_end) (da_cons (de_if (dt_isN (de_v C.toCxD 5 v__law_scan._law_value) de_non) de_non (de_tup (da_cons de_str (da_cons (de_v C.toCxD 5 v__law_scan._law_value) da_nil)))) da_nil))))) dss_nil) (dss_cons (ds_asg (de_callC C.toCxD C__law_scan g__law_scan._law_scan (by omega) (da_cons (de_v C.toCxD 0 v__law_scan._law_text_here) (da_cons (de_add (de_v C.toCxD 4 v__law_scan._law_end) de_int C.toCxD.hK) (da_cons (de_add (de_v C.toCxD 2 v__law_scan._law_level) de_int C.toCxD.hK) da_nil)))) (dg_tup C.toCxD.cm (dgs_cons (dg_v C.toCxD 4 (C.st l__law_scan._law_end)) (dgs_cons (dg_v C.toCxD 6 (C.st l__law_scan._law_part)) dgs_nil)) rfl rfl C.toCxD.hK)) (dss_one (ds_ret (de_tup (da_cons (de_v C.toCxD 4 v__law_scan._law_end) (da_cons (de_if (dt_isN (de_v C.toCxD 6 v__law_scan._law_part) de_non) de_non (de_tup (da_cons de_str (da_cons (de_v C.toCxD 5 v__law_scan._law_value) (da_cons (de_v C.toCxD 6 v__law_scan._law_part) da_nil))))) da_nil)))))))))))))
theorem ok__law_scan {P : Program} {w : World} {base : Heap} {M : Mx} (T : Tx M w) (Dx : DefAt M "_law_scan" s__law_scan ["_law_text_here", "_law_k", "_law_level"]) (D__law_scan_pair : DefAt M "_law_scan_pair" s__law_scan_pair ["_law_text_here", "_law_k", "_law_level"]) (D__law_scan_word : DefAt M "_law_scan_word" s__law_scan_word ["_law_text_here", "_law_k", "_law_level"]) (C__law_at : Cal P w base M "_law_at" 1 2 m__law_at) (C__law_letters : Cal P w base M "_law_letters" 1 0 m__law_letters) (C__law_scan_fraction : Cal P w base M "_law_scan_fraction" 3 2 m__law_scan_fraction) (C__law_fits : Cal P w base M "_law_fits" 2 3 m__law_fits) (C__law_is_name : Cal P w base M "_law_is_name" 2 1 m__law_is_name) : ∀ n : Nat, FnOk P w M.K M.mg base (L2.CX P w) (3 + n * 2) Dx.f Dx.fd ["_law_text_here", "_law_k", "_law_level"] (spD M 3 (m__law_scan n))
  | 0 => fn_bad
  | n + 1 => by
    have ih := ok__law_scan (P := P) (base := base) T Dx D__law_scan_pair D__law_scan_word C__law_at C__law_letters C__law_scan_fraction C__law_fits C__law_is_name n
    have C__law_scan : Cal P w base M "_law_scan" (3 + n * 2) 3 (m__law_scan n) := Dx.cal ih
    have C__law_scan_pair := cal__law_scan_pair (P := P) (base := base) T D__law_scan_pair C__law_fits C__law_at (3 + n * 2) (by omega) (m__law_scan n) C__law_scan
    have C__law_scan_word := cal__law_scan_word (P := P) (base := base) T D__law_scan_word C__law_at C__law_letters C__law_is_name C__law_fits (3 + n * 2) (by omega) (m__law_scan n) C__law_scan
    have h : ∀ (cdv : Value) (A : Around) (outer : List Env) (s : Shared) (H : Hp) (E : XK), Room (3 + n * 2 + 1) (A.deeper (envOfC "_law_scan" (defScope s__law_scan) s.heap.objs.size Dx.f cdv)) → DSs (cxOf (L2.CX P w) P w M.K M.mg base n__law_scan "_law_scan" (defScope s__law_scan) Dx.f cdv A outer s H E) M (fun cls d _ H' => E cls d H') (defBody s__law_scan) (b__law_scan (m__law_scan n)) := fun cdv A outer s H E hr => d__law_scan T C__law_at C__law_letters C__law_scan_fraction (3 + n * 2) (by omega) (m__law_scan n) C__law_scan C__law_scan_pair C__law_scan_word (cxF_of sc__law_scan hr)
    have e : 3 + (n + 1) * 2 = 3 + n * 2 + 1 + 1 := by omega
    rw [e]
    exact fn_D Dx.fu sc__law_scan h
def cal__law_scan {P : Program} {w : World} {base : Heap} {M : Mx} (T : Tx M w) (Dx : DefAt M "_law_scan" s__law_scan ["_law_text_here", "_law_k", "_law_level"]) (D__law_scan_pair : DefAt M "_law_scan_pair" s__law_scan_pair ["_law_text_here", "_law_k", "_law_level"]) (D__law_scan_word : DefAt M "_law_scan_word" s__law_scan_word ["_law_text_here", "_law_k", "_law_level"]) (C__law_at : Cal P w base M "_law_at" 1 2 m__law_at) (C__law_letters : Cal P w base M "_law_letters" 1 0 m__law_letters) (C__law_scan_fraction : Cal P w base M "_law_scan_fraction" 3 2 m__law_scan_fraction) (C__law_fits : Cal P w base M "_law_fits" 2 3 m__law_fits) (C__law_is_name : Cal P w base M "_law_is_name" 2 1 m__law_is_name) : Cal P w base M "_law_scan" 31 3 (m__law_scan 14) := Dx.cal (ok__law_scan (P := P) (base := base) T Dx D__law_scan_pair D__law_scan_word C__law_at C__law_letters C__law_scan_fraction C__law_fits C__law_is_name 14)
abbrev s__law_due : Stmt := topS 48
abbrev n__law_due : List Str := ["_law_text_here", "_law_end", "_law_found"]
theorem sc__law_due : FnScope n__law_due ["_law_text_here"] (defScope s__law_due) := ⟨rfl, rfl, rfl, by decide +kernel, rfl, by decide +kernel, by decide +kernel⟩
structure V__law_due : Prop where
  _law_text_here : NameOk (defScope s__law_due) "_law_text_here"
  _law_found : NameOk (defScope s__law_due) "_law_found"
  _law_end : NameOk (defScope s__law_due) "_law_end"
theorem v__law_due : V__law_due := ⟨⟨by unfold Vis; decide +kernel, by decide +kernel, by decide +kernel⟩, ⟨by unfold Vis; decide +kernel, by decide +kernel, by decide +kernel⟩, ⟨by unfold Vis; decide +kernel, by decide +kernel, by decide +kernel⟩⟩
structure L__law_due : Prop where
  _law_found : L2.Loc (defScope s__law_due) "_law_found"
  _law_end : L2.Loc (defScope s__law_due) "_law_end"
theorem l__law_due : L__law_due := ⟨by unfold L2.Loc; decide +kernel, by unfold L2.Loc; decide +kernel⟩
structure G__law_due : Prop where
  _law_scan : GlOk (defScope s__law_due) "_law_scan"
  len : GlOk (defScope s__law_due) "len"
theorem g__law_due : G__law_due := ⟨⟨by decide +kernel, by decide +kernel, by decide +kernel⟩, ⟨by decide +kernel, by decide +kernel, by decide +kernel⟩⟩
def b__law_due : DM Fl := sSeq (sAsg (tgTup 2 (tgCons (tgName 1) (tgCons (tgName 2) (tgNil)))) (dCall 3 [] (m__law_scan 14) (aCons (dVar 0) (aCons (dC (.int 0)) (aCons (dC (.int 1)) (aNil)))))) (sRet (dIf (dAndT (fun ρ => (dOp2 (isND true) (dVar 2) (dC .non) ρ).bind asB) (fun ρ => (dOp2 eqD (dVar 1) (dCb gLen (vCons (dVar 0) (vNil))) ρ).bind asB)) (dTup (aCons (dC (.str "")) (aCons (dVar 2) (aNil)))) (dTup (aCons (dC (.str "InvalidText")) (aCons (dVar 1) (aNil))))))
def m__law_due : SE → R RV := mFn n__law_due.length b__law_due
theorem d__law_due {P : Program} {w : World} {base : Heap} {M : Mx} (T : Tx M w) (C__law_scan : Cal P w base M "_law_scan" 31 3 (m__law_scan 14)) {X : Cx} {W : DL.WX} (C : CxF P w base M n__law_due (defScope s__law_due) 31 X W) : DSs X M W (defBody s__law_due) b__law_due :=
  (dss_cons (ds_asg (de_callC C.toCxD C__law_scan g__law_due._law_scan (by decide) (da_cons (de_v C.toCxD 0 v__law_due._law_text_here) (da_cons de_int (da_cons de_int da_nil)))) (dg_tup C.toCxD.cm (dgs_cons (dg_v C.toCxD 1 (C.st l__law_due._law_end)) (dgs_cons (dg_v C.toCxD 2 (C.st l__law_due._law_found)) dgs_nil)) rfl rfl C.toCxD.hK)) (dss_one (ds_ret (de_if (dt_w (dw_and (dt_notN (de_v C.toCxD 2 v__law_due._law_found) de_non) (dw_and1 (dt_eq (de_v C.toCxD 1 v__law_due._law_end) (de_lenF C.toCxD g__law_due.len T.z_len (dv_cons (de_v C.toCxD 0 v__law_due._law_text_here) dv_nil)) C.toCxD.u64 C.toCxD.hK)))) (de_tup (da_cons de_str (da_cons (de_v C.toCxD 2 v__law_due._law_found) da_nil))) (de_tup (da_cons de_str (da_cons (de_v C.toCxD 1 v__law_due._law_end) da_nil)))))))
theorem ok__law_due {P : Program} {w : World} {base : Heap} {M : Mx} (T : Tx M w) (Dx : DefAt M "_law_due" s__law_due ["_law_text_here"]) (C__law_scan : Cal P w base M "_law_scan" 31 3 (m__law_scan 14)) : FnOk P w M.K M.mg base (L2.CX P w) 32 Dx.f Dx.fd ["_law_text_here"] (spD M 1 m__law_due) := by
  have h : ∀ (cdv : Value) (A : Around) (outer : List Env) (s : Shared) (H : Hp) (E : XK), Room 31 (A.deeper (envOfC "_law_due" (defScope s__law_due) s.heap.objs.size Dx.f cdv)) → DSs (cxOf (L2.CX P w) P w M.K M.mg base n__law_due "_law_due" (defScope s__law_due) Dx.f cdv A outer s H E) M (fun cls d _ H' => E cls d H') (defBody s__law_due) b__law_due := fun cdv A outer s H E hr => d__law_due T C__law_scan (cxF_of sc__law_due hr)
  exact fn_D Dx.fu sc__law_due h
def cal__law_due {P : Program} {w : World} {base : Heap} {M : Mx} (T : Tx M w) (Dx : DefAt M "_law_due" s__law_due ["_law_text_here"]) (C__law_scan : Cal P w base M "_law_scan" 31 3 (m__law_scan 14)) : Cal P w base M "_law_due" 32 1 m__law_due := Dx.cal (ok__law_due (P := P) (base := base) T Dx C__law_scan)
abbrev s__law_field : Stmt := topS 31
abbrev n__law_field : List Str := ["_law_e"]
theorem sc__law_field : FnScope n__law_field ["_law_e"] (defScope s__law_field) := ⟨rfl, rfl, rfl, by decide +kernel, rfl, by decide +kernel, by decide +kernel⟩
structure V__law_field : Prop where
  _law_e : NameOk (defScope s__law_field) "_law_e"
theorem v__law_field : V__law_field := ⟨⟨by unfold Vis; decide +kernel, by decide +kernel, by decide +kernel⟩⟩
def b__law_field : DM Fl := sSeq (sIf (fun ρ => (dOp2 (inD false) (dOp1 (attrD "tag") (dVar 0)) (dTup (aCons (dC (.str "CircularName")) (aCons (dC (.str "InvalidName")) (aCons (dC (.str "DuplicateName")) (aCons (dC (.str "WrongKind")) (aCons (dC (.str "UndefinedName")) (aNil))))))) ρ).bind asB) (sRet (dOp1 (attrD "name") (dVar 0))) (sPass)) (sSeq (sIf (fun ρ => (dOp2 (inD false) (dOp1 (attrD "tag") (dVar 0)) (dTup (aCons (dC (.str "InvalidText")) (aCons (dC (.str "InvalidCommand")) (aNil)))) ρ).bind asB) (sRet (dOp1 (attrD "position") (dVar 0))) (sPass)) (sSeq (sIf (fun ρ => (dOp2 eqD (dOp1 (attrD "tag") (dVar 0)) (dC (.str "InvalidMachine")) ρ).bind asB) (sRet (dOp1 (attrD "state") (dVar 0))) (sPass)) (sSeq (sIf (fun ρ => (dOp2 eqD (dOp1 (attrD "tag") (dVar 0)) (dC (.str "LimitReached")) ρ).bind asB) (sRet (dOp1 (attrD "limit") (dVar 0))) (sPass)) (sSeq (sIf (fun ρ => (dOp2 eqD (dOp1 (attrD "tag") (dVar 0)) (dC (.str "NameInUse")) ρ).bind asB) (sRet (dOp1 (attrD "user") (dVar 0))) (sPass)) (sRet (dIf (fun ρ => (dOp2 eqD (dOp1 (attrD "tag") (dVar 0)) (dC (.str "InvalidDocument")) ρ).bind asB) (dOp1 (attrD "line") (dVar 0)) (dC .non)))))))
def m__law_field : SE → R RV := mFn n__law_field.length b__law_field
theorem d__law_field {M : Mx} {X : Cx} {W : DL.WX} (C : CxQ M n__law_field (defScope s__law_field) X) : DSs X M W (defBody s__law_field) b__law_field :=
  (dss_cons (ds_if (dt_in (de_attr C.hK (dq_v C 0 v__law_field._law_e)) (de_tup (da_cons de_str (da_cons de_str (da_cons de_str (da_cons de_str (da_cons de_str da_nil)))))) C.u65 rfl C.hK) (dss_one (ds_ret (de_attr C.hK (dq_v C 0 v__law_field._law_e)))) dss_nil) (dss_cons (ds_if (dt_in (de_attr C.hK (dq_v C 0 v__law_field._law_e)) (de_tup (da_cons de_str (da_cons de_str da_nil))) C.u65 rfl C.hK) (dss_one (ds_ret (de_attr C.hK (dq_v C 0 v__law_field._law_e)))) dss_nil) (dss_cons (ds_if (dt_eq (de_attr C.hK (dq_v C 0 v__law_field._law_e)) de_str C.u64 C.hK) (dss_one (ds_ret (de_attr C.hK (dq_v C 0 v__law_field._law_e)))) dss_nil) (dss_cons (ds_if (dt_eq (de_attr C.hK (dq_v C 0 v__law_field._law_e)) de_str C.u64 C.hK) (dss_one (ds_ret (de_attr C.hK (dq_v C 0 v__law_field._law_e)))) dss_nil) (dss_cons (ds_if (dt_eq (de_attr C.hK (dq_v C 0 v__law_field._law_e)) de_str C.u64 C.hK) (dss_one (ds_ret (de_attr C.hK (dq_v C 0 v__law_field._law_e)))) dss_nil) (dss_one (ds_ret (de_if (dt_eq (de_attr C.hK (dq_v C 0 v__law_field._law_e)) de_str C.u64 C.hK) (de_attr C.hK (dq_v C 0 v__law_field._law_e)) de_non))))))))
theorem okq__law_field {M : Mx} (Dx : DefAt M "_law_field" s__law_field ["_law_e"]) (P : Program) (w : World) (base : Heap) : FnQ P w M.K M.mg base 1 Dx.f Dx.fd ["_law_e"] (spD M 1 m__law_field) := by
  have h : ∀ (cdv : Value) (A : Around) (outer : List Env) (s : Shared) (H : Hp) (E : XK) (p : Addr × Obj), L2H.RoomH 0 (A.deeper (envOfC "_law_field" (defScope s__law_field) s.heap.objs.size Dx.f cdv)) → DSs (L2H.cxH (L2.CX P w) P w M.K M.mg base n__law_field "_law_field" (defScope s__law_field) Dx.f cdv A outer s H E p) M (fun cls d _ H' => E cls d H') (defBody s__law_field) b__law_field := fun cdv A outer s H E p hr => d__law_field (cxQ_of hr)
  exact fn_DQ Dx.fu sc__law_field h
abbrev s__law_outcome : Stmt := topS 32
theorem sO : OutSc (defScope s__law_outcome) := ⟨⟨rfl, rfl, rfl, by decide +kernel, rfl, by decide +kernel, by decide +kernel⟩, by unfold Vis; decide +kernel, by decide +kernel, by decide +kernel, by decide +kernel, by decide +kernel, by decide +kernel⟩
abbrev s_law : Stmt := topS 50
abbrev n_law : List Str := ["_law_script", "_law_rng", "_law_fixed", "_law_texts", "_law_k", "_law_turn", "_law_text_here", "_law_step", "_law_told"]
theorem sc_law : FnScope n_law ["_law_script"] (defScope s_law) := ⟨rfl, rfl, rfl, by decide +kernel, rfl, by decide +kernel, by decide +kernel⟩
structure V_law : Prop where
  _law_script : NameOk (defScope s_law) "_law_script"
  _law_fixed : NameOk (defScope s_law) "_law_fixed"
  _law_rng : NameOk (defScope s_law) "_law_rng"
  _law_text_here : NameOk (defScope s_law) "_law_text_here"
  _law_texts : NameOk (defScope s_law) "_law_texts"
  _law_told : NameOk (defScope s_law) "_law_told"
theorem v_law : V_law := ⟨⟨by unfold Vis; decide +kernel, by decide +kernel, by decide +kernel⟩, ⟨by unfold Vis; decide +kernel, by decide +kernel, by decide +kernel⟩, ⟨by unfold Vis; decide +kernel, by decide +kernel, by decide +kernel⟩, ⟨by unfold Vis; decide +kernel, by decide +kernel, by decide +kernel⟩, ⟨by unfold Vis; decide +kernel, by decide +kernel, by decide +kernel⟩, ⟨by unfold Vis; decide +kernel, by decide +kernel, by decide +kernel⟩⟩
structure L_law : Prop where
  _law_rng : L2.Loc (defScope s_law) "_law_rng"
  _law_fixed : L2.Loc (defScope s_law) "_law_fixed"
  _law_turn : L2.Loc (defScope s_law) "_law_turn"
  _law_text_here : L2.Loc (defScope s_law) "_law_text_here"
  _law_step : L2.Loc (defScope s_law) "_law_step"
  _law_told : L2.Loc (defScope s_law) "_law_told"
theorem l_law : L_law := ⟨by unfold L2.Loc; decide +kernel, by unfold L2.Loc; decide +kernel, by unfold L2.Loc; decide +kernel, by unfold L2.Loc; decide +kernel, by unfold L2.Loc; decide +kernel, by unfold L2.Loc; decide +kernel⟩
structure G_law : Prop where
  _law_begin : GlOk (defScope s_law) "_law_begin"
  range : GlOk (defScope s_law) "range"
  _law_draw : GlOk (defScope s_law) "_law_draw"
  _law_names : GlOk (defScope s_law) "_law_names"
  _law_expression : GlOk (defScope s_law) "_law_expression"
  _law_text : GlOk (defScope s_law) "_law_text"
  _law_altered : GlOk (defScope s_law) "_law_altered"
  _law_outcome : GlOk (defScope s_law) "_law_outcome"
  _law_due : GlOk (defScope s_law) "_law_due"
  _law_same : GlOk (defScope s_law) "_law_same"
theorem g_law : G_law := ⟨⟨by decide +kernel, by decide +kernel, by decide +kernel⟩, ⟨by decide +kernel, by decide +kernel, by decide +kernel⟩, ⟨by decide +kernel, by decide +kernel, by decide +kernel⟩, ⟨by decide +kernel, by decide +kernel, by decide +kernel⟩, ⟨by decide +kernel, by decide +kernel, by decide +kernel⟩, ⟨by decide +kernel, by decide +kernel, by decide +kernel⟩, ⟨by decide +kernel, by decide +kernel, by decide +kernel⟩, ⟨by decide +kernel, by decide +kernel, by decide +kernel⟩, ⟨by decide +kernel, by decide +kernel, by decide +kernel⟩, ⟨by decide +kernel, by decide +kernel, by decide +kernel⟩⟩
def b_law : DM Fl := sSeq (sSet 1 (dCall 1 [] m__law_begin (aCons (dVar 0) (aNil)))) (sSeq (sSet 2 (dLst (aCons (dC (.str "")) (aCons (dC (.str " ")) (aCons (dC (.str "x ")) (aCons (dC (.str " x")) (aCons (dC (.str "xx")) (aCons (dC (.str "(x)")) (aCons (dC (.str "x + x")) (aCons (dC (.str "(x +x)")) (aCons (dC (.str "(x+ x)")) (aCons (dC (.str "(x  + x)")) (aCons (dC (.str "(x * x)")) (aCons (dC (.str "(x + x")) (aNil))))))))))))))) (sSeq (sSet 2 (dOp2 addD (dVar 2) (dLst (aCons (dC (.str "-x")) (aCons (dC (.str "--1")) (aCons (dC (.str "-")) (aCons (dC (.str "-0")) (aCons (dC (.str "0")) (aCons (dC (.str "00")) (aCons (dC (.str "01")) (aCons (dC (.str "0/2")) (aCons (dC (.str "1/1")) (aCons (dC (.str "1/0")) (aCons (dC (.str "2/4")) (aCons (dC (.str "1/02")) (aCons (dC (.str "1/")) (aCons (dC (.str "/2")) (aNil)))))))))))))))))) (sSeq (sSet 2 (dOp2 addD (dVar 2) (dLst (aCons (dC (.str "1234567")) (aCons (dC (.str "1/1234567")) (aCons (dC (.str "2*")) (aCons (dC (.str "2*3")) (aCons (dC (.str "2*-3")) (aCons (dC (.str "2 *x")) (aCons (dC (.str "1/2*3/4*x")) (aCons (dC (.str "0*x")) (aCons (dC (.str "abs(x")) (aCons (dC (.str "abs x")) (aNil)))))))))))))) (sSeq (sSet 2 (dOp2 addD (dVar 2) (dLst (aCons (dC (.str "abs()")) (aCons (dC (.str "max(x)")) (aCons (dC (.str "max(x,x)")) (aCons (dC (.str "max(x, x, x)")) (aCons (dC (.str "min(x, x)")) (aCons (dC (.str "abs(x, x)")) (aCons (dC (.str "half(x)")) (aNil))))))))))) (sSeq (sSet 2 (dOp2 addD (dVar 2) (dLst (aCons (dC (.str "0/5")) (aCons (dC (.str "2/4444444")) (aCons (dC (.str "1/05")) (aCons (dC (.str "-0/3")) (aCons (dC (.str "1/00")) (aCons (dC (.str "3/1")) (aCons (dC (.str "1/7777777x")) (aNil))))))))))) (sSeq (sSet 2 (dOp2 addD (dVar 2) (dLst (aCons (dC (.str "half(x, x)")) (aCons (dC (.str "abcdefghi(x)")) (aCons (dC (.str "a(x)")) (aCons (dC (.str "ab")) (aCons (dC (.str "Ab(x)")) (aNil))))))))) (sSeq (sSet 3 (dLc [4] (iRange1 (vCons (dC (.int 6)) (vNil))) (tgName 4) (tYesD) (dCall 2 [] m__law_pick (aIo 1 (aCons (dVar 2) (aNil)))))) (sSeq (sFor (iRange1 (vCons (dC (.int 6)) (vNil))) (tgName 5) (sSeq (sSet 6 (dCall 1 [] (m__law_text 8) (aCons (dCall 3 [] (m__law_expression 8) (aIo 1 (aCons (dCall 2 [] m__law_names (aIo 1 (aCons (dC (.int 3)) (aNil)))) (aCons (dOp2 addD (dC (.int 1)) (dCall 2 [] m__law_draw (aIo 1 (aCons (dC (.int 4)) (aNil))))) (aNil))))) (aNil)))) (sSeq (sFor (iRange1 (vCons (dCall 2 [] m__law_draw (aIo 1 (aCons (dC (.int 3)) (aNil)))) (vNil))) (tgName 7) (sSet 6 (dCall 2 [] m__law_altered (aIo 1 (aCons (dVar 6) (aNil)))))) (sExpr (lmD 3 gAppend (aCons (dVar 6) (aNil))))))) (sSeq (sFor (iSeq (dVar 3)) (tgName 6) (sSeq (sSet 8 (dOut m__law_field okE (dCall 1 [] m_parse_expression (aCons (dVar 6) (aNil))))) (sIf (dNotT (fun ρ => ((dCall 2 [] (m__law_same 16) (aCons (dVar 8) (aCons (dCall 1 [] m__law_due (aCons (dVar 6) (aNil))) (aNil)))) ρ).bind asB)) (sRet (dC (.bl false))) (sPass)))) (sRet (dOp2 eqD (dOut m__law_field okE (dCall 1 [] m_parse_expression (aCons (dC (.str "max(x, 2/4)")) (aNil)))) (dTup (aCons (dC (.str "InvalidText")) (aCons (dC (.int 9)) (aNil)))))))))))))))
def m_law : SE → R RV := mFn n_law.length b_law
theorem d_law {P : Program} {w : World} {base : Heap} {M : Mx} (T : Tx M w) (C__law_begin : Cal P w base M "_law_begin" 1 1 m__law_begin) (C__law_pick : Cal P w base M "_law_pick" 2 2 m__law_pick) (C__law_text : Cal P w base M "_law_text" 9 1 (m__law_text 8)) (C__law_expression : Cal P w base M "_law_expression" 11 3 (m__law_expression 8)) (C__law_draw : Cal P w base M "_law_draw" 1 2 m__law_draw) (C__law_names : Cal P w base M "_law_names" 3 2 m__law_names) (C__law_altered : Cal P w base M "_law_altered" 3 2 m__law_altered) (C_parse_expression : Cal P w base M "parse_expression" 33 1 m_parse_expression) (C__law_same : Cal P w base M "_law_same" 16 2 (m__law_same 16)) (C__law_due : Cal P w base M "_law_due" 32 1 m__law_due) (O : OutAt M s__law_outcome s__law_field okE m__law_field) {c Pt : Addr} {X : Cx} {W : DL.WX} (C : CxL P w base M n_law (defScope s_law) 35 X W c Pt) : DSs X M W (defBody s_law) b_law :=
  (dss_cons (ds_v C.toCxD 1 (C.st l_law._law_rng) (de_callC C.toCxD C__law_begin g_law._law_begin (by decide) (da_cons (de_v C.toCxD 0 v_law._law_script) da_nil))) (dss_cons (ds_v C.toCxD 2 (C.st l_law._law_fixed) (de_lst (da_cons de_str (da_cons de_str (da_cons de_str (da_cons de_str (da_cons de_str (da_cons de_str (da_cons de_str (da_cons de_str (da_cons de_str (da_cons de_str (da_cons de_str (da_cons de_str da_nil)))))))))))))) (dss_cons (ds_v C.toCxD 2 (C.st l_law._law_fixed) (de_add (de_v C.toCxD 2 v_law._law_fixed) (de_lst (da_cons de_str (da_cons de_str (da_cons de_str (da_cons de_str (da_cons de_str (da_cons de_str (da_cons de_str (da_cons de_str (da_cons de_str (da_cons de_str (da_cons de_str (da_cons de_str (da_cons de_str (da_cons de_str da_nil))))))))))))))) C.toCxD.hK)) (dss_cons (ds_v C.toCxD 2 (C.st l_law._law_fixed) (de_add (de_v C.toCxD 2 v_law._law_fixed) (de_lst (da_cons de_str (da_cons de_str (da_cons de_str (da_cons de_str (da_cons de_str (da_cons de_str (da_cons de_str (da_cons de_str (da_cons de_str (da_cons de_str da_nil))))))))))) C.toCxD.hK)) (dss_cons (ds_v C.toCxD 2 (C.st l_law._law_fixed) (de_add (de_v C.toCxD 2 v_law._law_fixed) (de_lst (da_cons de_str (da_cons de_str (da_cons de_str (da_cons de_str (da_cons de_str (da_cons de_str (da_cons de_str da_nil)))))))) C.toCxD.hK)) (dss_cons (ds_v C.toCxD 2 (C.st l_law._law_fixed) (de_add (de_v C.toCxD 2 v_law._law_fixed) (de_lst (da_cons de_str (da_cons de_str (da_cons de_str (da_cons de_str (da_cons de_str (da_cons de_str (da_cons de_str da_nil)))))))) C.toCxD.hK)) (dss_cons (ds_v C.toCxD 2 (C.st l_law._law_fixed) (de_add (de_v C.toCxD 2 v_law._law_fixed) (de_lst (da_cons de_str (da_cons de_str (da_cons de_str (da_cons de_str (da_cons de_str da_nil)))))) C.toCxD.hK)) (dss_cons (ds_setLcF C.toCxD 3 (by decide +kernel) rfl (by decide +kernel) [("_law_k", 4)] (blkOk_by (by decide +kernel)) tgName_ex (di_range1F C.toCxD g_law.range T.z_range (dv_cons de_int dv_nil)) (fun _ _ _ _ _ => (dg_v (C.toCxD.blk rfl _ _ _ _ _) 4 ((C.toCxD.blk rfl _ _ _ _ _).stl (by decide +kernel)))) (fun _ _ _ _ _ => dts_nil) (fun _ _ _ _ _ => (de_callC (C.toCxD.blk rfl _ _ _ _ _) C__law_pick ⟨by decide +kernel, by decide +kernel, by decide +kernel⟩ (by decide) (da_v (C.toCxD.blk rfl _ _ _ _ _) 1 ⟨by unfold Vis; decide +kernel, by decide +kernel, by decide +kernel⟩ (da_cons (de_v (C.toCxD.blk rfl _ _ _ _ _) 2 ⟨by unfold Vis; decide +kernel, by decide +kernel, by decide +kernel⟩) da_nil))))) (dss_cons (ds_for C.ps C.cm (di_range1F C.toCxD g_law.range T.z_range (dv_cons de_int dv_nil)) (dg_v C.toCxD 5 (C.st l_law._law_turn)) (dss_cons (ds_v C.toCxD 6 (C.st l_law._law_text_here) (de_callC C.toCxD C__law_text g_law._law_text (by decide) (da_cons (de_callC C.toCxD C__law_expression g_law._law_expression (by decide) (da_v C.toCxD 1 v_law._law_rng (da_cons (de_callC C.toCxD C__law_names g_law._law_names (by decide) (da_v C.toCxD 1 v_law._law_rng (da_cons de_int da_nil))) (da_cons (de_add de_int (de_callC C.toCxD C__law_draw g_law._law_draw (by decide) (da_v C.toCxD 1 v_law._law_rng (da_cons de_int da_nil))) C.toCxD.hK) da_nil)))) da_nil))) (dss_cons (ds_for C.ps C.cm (di_range1F C.toCxD g_law.range T.z_range (dv_cons (de_callC C.toCxD C__law_draw g_law._law_draw (by decide) (da_v C.toCxD 1 v_law._law_rng (da_cons de_int da_nil))) dv_nil)) (dg_v C.toCxD 7 (C.st l_law._law_step)) (dss_one (ds_v C.toCxD 6 (C.st l_law._law_text_here) (de_callC C.toCxD C__law_altered g_law._law_altered (by decide) (da_v C.toCxD 1 v_law._law_rng (da_cons (de_v C.toCxD 6 v_law._law_text_here) da_nil)))))) (dss_one (ds_expr (de_lm C.toCxD 3 v_law._law_texts lm_append (fun to t p q => pe_bm PySem.F.plainAttrs_list PySem.F.slot_list_append PySem.F.type_list_append mt_append p q) (da_cons (de_v C.toCxD 6 v_law._law_text_here) da_nil))))))) (dss_cons (ds_for C.ps C.cm (di_seq (de_v C.toCxD 3 v_law._law_texts) C.toCxD.hK) (dg_v C.toCxD 6 (C.st l_law._law_text_here)) (dss_cons (ds_v C.toCxD 8 (C.st l_law._law_told) (de_out (k := 33) C O sO g_law._law_outcome (by decide) (LamX.lamS_by (by decide +kernel)) (fun Xl E Cl => (de_callC Cl C_parse_expression ⟨by decide +kernel, by decide +kernel, by decide +kernel⟩ (by decide) (da_cons (de_v Cl 6 ⟨by unfold Vis; decide +kernel, by decide +kernel, by decide +kernel⟩) da_nil))))) (dss_one (ds_if (dt_not (dt_val (de_callC C.toCxD C__law_same g_law._law_same (by decide) (da_cons (de_v C.toCxD 8 v_law._law_told) (da_cons (de_callC C.toCxD C__law_due g_law._law_due (by decide) (da_cons (de_v C.toCxD 6 v_law._law_text_here) da_nil)) da_nil))))) (dss_one (ds_ret de_bl)) dss_nil)))) (dss_one (ds_ret (de_eq (de_out (k := 33) C O sO g_law._law_outcome (by decide) (LamX.lamS_by (by decide +kernel)) (fun Xl E Cl => (de_callC Cl C_parse_expression ⟨by decide +kernel, by decide +kernel, by decide +kernel⟩ (by decide) (da_cons de_str da_nil)))) (de_tup (da_cons de_str (da_cons de_int da_nil))) C.toCxD.u64 C.toCxD.hK)))))))))))))
theorem ok_law {P : Program} {w : World} {base : Heap} {M : Mx} (T : Tx M w) {c Pt : Addr} (Dx : DefAtL M "law" s_law ["_law_script"] c Pt) (tb : LamX.TabB base M.mg c Pt) (C__law_begin : Cal P w base M "_law_begin" 1 1 m__law_begin) (C__law_pick : Cal P w base M "_law_pick" 2 2 m__law_pick) (C__law_text : Cal P w base M "_law_text" 9 1 (m__law_text 8)) (C__law_expression : Cal P w base M "_law_expression" 11 3 (m__law_expression 8)) (C__law_draw : Cal P w base M "_law_draw" 1 2 m__law_draw) (C__law_names : Cal P w base M "_law_names" 3 2 m__law_names) (C__law_altered : Cal P w base M "_law_altered" 3 2 m__law_altered) (C_parse_expression : Cal P w base M "parse_expression" 33 1 m_parse_expression) (C__law_same : Cal P w base M "_law_same" 16 2 (m__law_same 16)) (C__law_due : Cal P w base M "_law_due" 32 1 m__law_due) (O : OutAt M s__law_outcome s__law_field okE m__law_field) : FnOk P w M.K M.mg base (L2.CX P w) 36 Dx.d.f Dx.d.fd ["_law_script"] (spD M 1 m_law) := by
  have h : ∀ (A : Around) (outer : List Env) (s : Shared) (H : Hp) (E : XK), Room 35 (A.deeper (envOfC "law" (defScope s_law) s.heap.objs.size Dx.d.f (.ref c))) → DSs (cxOf (L2.CX P w) P w M.K M.mg base n_law "law" (defScope s_law) Dx.d.f (.ref c) A outer s H E) M (fun cls d _ H' => E cls d H') (defBody s_law) b_law := fun A outer s H E hr => d_law T C__law_begin C__law_pick C__law_text C__law_expression C__law_draw C__law_names C__law_altered C_parse_expression C__law_same C__law_due O (cxL_of Dx sc_law tb hr)
  exact fn_DL Dx sc_law h
structure Ax (M : Mx) (c Pt : Addr) where
  f__law_begin : DefAt M "_law_begin" s__law_begin ["_law_script"]
  f__law_draw : DefAt M "_law_draw" s__law_draw ["_law_rng", "_law_many"]
  f__law_pick : DefAt M "_law_pick" s__law_pick ["_law_rng", "_law_items"]
  f__law_fraction_text : DefAt M "_law_fraction_text" s__law_fraction_text ["_law_value"]
  f__law_text : DefAt M "_law_text" s__law_text ["_law_expression_here"]
  f__law_lowest : DefAt M "_law_lowest" s__law_lowest ["_law_above", "_law_below"]
  f__law_text_fraction : DefAt M "_law_text_fraction" s__law_text_fraction ["_law_rng"]
  f__law_expression : DefAt M "_law_expression" s__law_expression ["_law_rng", "_law_names_here", "_law_depth"]
  f__law_letters : DefAt M "_law_letters" s__law_letters []
  f__law_names : DefAt M "_law_names" s__law_names ["_law_rng", "_law_many"]
  f__law_altered : DefAt M "_law_altered" s__law_altered ["_law_rng", "_law_text_here"]
  f_char_at : DefAt M "char_at" s_char_at ["text", "position"]
  f_scan_exact : DefAt M "scan_exact" s_scan_exact ["text", "position", "wanted"]
  f_parse_pair : DefAt M "parse_pair" s_parse_pair ["text", "position", "level"]
  f_is_name : DefAt M "is_name" s_is_name ["text"]
  f_parse_word : DefAt M "parse_word" s_parse_word ["text", "position", "level"]
  f_is_decimal : DefAt M "is_decimal" s_is_decimal ["char"]
  f_scan_number : DefAt M "scan_number" s_scan_number ["text", "position"]
  f_common_divisor : DefAt M "common_divisor" s_common_divisor ["one", "other"]
  f_scan_fraction : DefAt M "scan_fraction" s_scan_fraction ["text", "position"]
  f_parse_part : DefAt M "parse_part" s_parse_part ["text", "position", "level"]
  f_parse_expression : DefAt M "parse_expression" s_parse_expression ["text"]
  f__law_same : DefAt M "_law_same" s__law_same ["_law_found", "_law_due_here"]
  f__law_at : DefAt M "_law_at" s__law_at ["_law_text_here", "_law_k"]
  f__law_fits : DefAt M "_law_fits" s__law_fits ["_law_text_here", "_law_k", "_law_word"]
  f__law_scan_pair : DefAt M "_law_scan_pair" s__law_scan_pair ["_law_text_here", "_law_k", "_law_level"]
  f__law_is_name : DefAt M "_law_is_name" s__law_is_name ["_law_text_here"]
  f__law_scan_word : DefAt M "_law_scan_word" s__law_scan_word ["_law_text_here", "_law_k", "_law_level"]
  f__law_figures : DefAt M "_law_figures" s__law_figures ["_law_text_here", "_law_k"]
  f__law_scan_fraction : DefAt M "_law_scan_fraction" s__law_scan_fraction ["_law_text_here", "_law_k"]
  f__law_scan : DefAt M "_law_scan" s__law_scan ["_law_text_here", "_law_k", "_law_level"]
  f__law_due : DefAt M "_law_due" s__law_due ["_law_text_here"]
  f_law : DefAtL M "law" s_law ["_law_script"] c Pt
  o : OutAt M s__law_outcome s__law_field okE m__law_field
def all__law_begin {P : Program} {w : World} {base : Heap} {M : Mx} {c Pt : Addr} (T : Tx M w) (D : Ax M c Pt) : Cal P w base M "_law_begin" 1 1 m__law_begin := cal__law_begin T D.f__law_begin 
def all__law_draw {P : Program} {w : World} {base : Heap} {M : Mx} {c Pt : Addr} (T : Tx M w) (D : Ax M c Pt) : Cal P w base M "_law_draw" 1 2 m__law_draw := cal__law_draw T D.f__law_draw 
def all__law_pick {P : Program} {w : World} {base : Heap} {M : Mx} {c Pt : Addr} (T : Tx M w) (D : Ax M c Pt) : Cal P w base M "_law_pick" 2 2 m__law_pick := cal__law_pick T D.f__law_pick (all__law_draw T D)
def all__law_fraction_text {P : Program} {w : World} {base : Heap} {M : Mx} {c Pt : Addr} (T : Tx M w) (D : Ax M c Pt) : Cal P w base M "_law_fraction_text" 1 1 m__law_fraction_text := cal__law_fraction_text T D.f__law_fraction_text 
def all__law_text {P : Program} {w : World} {base : Heap} {M : Mx} {c Pt : Addr} (T : Tx M w) (D : Ax M c Pt) : Cal P w base M "_law_text" 9 1 (m__law_text 8) := cal__law_text T D.f__law_text (all__law_fraction_text T D)
def all__law_lowest {P : Program} {w : World} {base : Heap} {M : Mx} {c Pt : Addr} (T : Tx M w) (D : Ax M c Pt) : Cal P w base M "_law_lowest" 1 2 m__law_lowest := cal__law_lowest T D.f__law_lowest 
def all__law_text_fraction {P : Program} {w : World} {base : Heap} {M : Mx} {c Pt : Addr} (T : Tx M w) (D : Ax M c Pt) : Cal P w base M "_law_text_fraction" 3 1 m__law_text_fraction := cal__law_text_fraction T D.f__law_text_fraction (all__law_pick T D) (all__law_draw T D) (all__law_lowest T D)
def all__law_expression {P : Program} {w : World} {base : Heap} {M : Mx} {c Pt : Addr} (T : Tx M w) (D : Ax M c Pt) : Cal P w base M "_law_expression" 11 3 (m__law_expression 8) := cal__law_expression T D.f__law_expression (all__law_draw T D) (all__law_pick T D) (all__law_text_fraction T D)
def all__law_letters {P : Program} {w : World} {base : Heap} {M : Mx} {c Pt : Addr} (T : Tx M w) (D : Ax M c Pt) : Cal P w base M "_law_letters" 1 0 m__law_letters := cal__law_letters T D.f__law_letters 
def all__law_names {P : Program} {w : World} {base : Heap} {M : Mx} {c Pt : Addr} (T : Tx M w) (D : Ax M c Pt) : Cal P w base M "_law_names" 3 2 m__law_names := cal__law_names T D.f__law_names (all__law_pick T D) (all__law_draw T D) (all__law_letters T D)
def all__law_altered {P : Program} {w : World} {base : Heap} {M : Mx} {c Pt : Addr} (T : Tx M w) (D : Ax M c Pt) : Cal P w base M "_law_altered" 3 2 m__law_altered := cal__law_altered T D.f__law_altered (all__law_pick T D) (all__law_draw T D)
def all_char_at {P : Program} {w : World} {base : Heap} {M : Mx} {c Pt : Addr} (T : Tx M w) (D : Ax M c Pt) : Cal P w base M "char_at" 1 2 m_char_at := cal_char_at T D.f_char_at 
def all_scan_exact {P : Program} {w : World} {base : Heap} {M : Mx} {c Pt : Addr} (T : Tx M w) (D : Ax M c Pt) : Cal P w base M "scan_exact" 3 3 m_scan_exact := cal_scan_exact T D.f_scan_exact (all_char_at T D)
def all_is_name {P : Program} {w : World} {base : Heap} {M : Mx} {c Pt : Addr} (T : Tx M w) (D : Ax M c Pt) : Cal P w base M "is_name" 1 1 m_is_name := cal_is_name T D.f_is_name 
def all_is_decimal {P : Program} {w : World} {base : Heap} {M : Mx} {c Pt : Addr} (T : Tx M w) (D : Ax M c Pt) : Cal P w base M "is_decimal" 1 1 m_is_decimal := cal_is_decimal T D.f_is_decimal 
def all_scan_number {P : Program} {w : World} {base : Heap} {M : Mx} {c Pt : Addr} (T : Tx M w) (D : Ax M c Pt) : Cal P w base M "scan_number" 3 2 m_scan_number := cal_scan_number T D.f_scan_number (all_is_decimal T D) (all_char_at T D)
def all_common_divisor {P : Program} {w : World} {base : Heap} {M : Mx} {c Pt : Addr} (T : Tx M w) (D : Ax M c Pt) : Cal P w base M "common_divisor" 1 2 m_common_divisor := cal_common_divisor T D.f_common_divisor 
def all_scan_fraction {P : Program} {w : World} {base : Heap} {M : Mx} {c Pt : Addr} (T : Tx M w) (D : Ax M c Pt) : Cal P w base M "scan_fraction" 4 2 m_scan_fraction := cal_scan_fraction T D.f_scan_fraction (all_char_at T D) (all_scan_number T D) (all_common_divisor T D)
def all_parse_part {P : Program} {w : World} {base : Heap} {M : Mx} {c Pt : Addr} (T : Tx M w) (D : Ax M c Pt) : Cal P w base M "parse_part" 32 3 (m_parse_part 14) := cal_parse_part T D.f_parse_part D.f_parse_pair D.f_parse_word (all_char_at T D) (all_scan_fraction T D) (all_scan_exact T D) (all_is_name T D)
def all_parse_pair {P : Program} {w : World} {base : Heap} {M : Mx} {c Pt : Addr} (T : Tx M w) (D : Ax M c Pt) : Cal P w base M "parse_pair" 33 3 (m_parse_pair (m_parse_part 14)) := cal_parse_pair T D.f_parse_pair (all_scan_exact T D) (all_char_at T D) 32 (by decide) (m_parse_part 14) (all_parse_part T D) 
def all_parse_word {P : Program} {w : World} {base : Heap} {M : Mx} {c Pt : Addr} (T : Tx M w) (D : Ax M c Pt) : Cal P w base M "parse_word" 33 3 (m_parse_word (m_parse_part 14)) := cal_parse_word T D.f_parse_word (all_char_at T D) (all_is_name T D) (all_scan_exact T D) 32 (by decide) (m_parse_part 14) (all_parse_part T D) 
def all_parse_expression {P : Program} {w : World} {base : Heap} {M : Mx} {c Pt : Addr} (T : Tx M w) (D : Ax M c Pt) : Cal P w base M "parse_expression" 33 1 m_parse_expression := cal_parse_expression T D.f_parse_expression (all_parse_part T D)
def all__law_same {P : Program} {w : World} {base : Heap} {M : Mx} {c Pt : Addr} (T : Tx M w) (D : Ax M c Pt) : Cal P w base M "_law_same" 16 2 (m__law_same 16) := cal__law_same T D.f__law_same 
def all__law_at {P : Program} {w : World} {base : Heap} {M : Mx} {c Pt : Addr} (T : Tx M w) (D : Ax M c Pt) : Cal P w base M "_law_at" 1 2 m__law_at := cal__law_at T D.f__law_at 
def all__law_fits {P : Program} {w : World} {base : Heap} {M : Mx} {c Pt : Addr} (T : Tx M w) (D : Ax M c Pt) : Cal P w base M "_law_fits" 2 3 m__law_fits := cal__law_fits T D.f__law_fits (all__law_at T D)
def all__law_is_name {P : Program} {w : World} {base : Heap} {M : Mx} {c Pt : Addr} (T : Tx M w) (D : Ax M c Pt) : Cal P w base M "_law_is_name" 2 1 m__law_is_name := cal__law_is_name T D.f__law_is_name (all__law_letters T D)
def all__law_figures {P : Program} {w : World} {base : Heap} {M : Mx} {c Pt : Addr} (T : Tx M w) (D : Ax M c Pt) : Cal P w base M "_law_figures" 2 2 m__law_figures := cal__law_figures T D.f__law_figures (all__law_at T D)
def all__law_scan_fraction {P : Program} {w : World} {base : Heap} {M : Mx} {c Pt : Addr} (T : Tx M w) (D : Ax M c Pt) : Cal P w base M "_law_scan_fraction" 3 2 m__law_scan_fraction := cal__law_scan_fraction T D.f__law_scan_fraction (all__law_at T D) (all__law_figures T D) (all__law_lowest T D)
def all__law_scan {P : Program} {w : World} {base : Heap} {M : Mx} {c Pt : Addr} (T : Tx M w) (D : Ax M c Pt) : Cal P w base M "_law_scan" 31 3 (m__law_scan 14) := cal__law_scan T D.f__law_scan D.f__law_scan_pair D.f__law_scan_word (all__law_at T D) (all__law_letters T D) (all__law_scan_fraction T D) (all__law_fits T D) (all__law_is_name T D)
def all__law_scan_pair {P : Program} {w : World} {base : Heap} {M : Mx} {c Pt : Addr} (T : Tx M w) (D : Ax M c Pt) : Cal P w base M "_law_scan_pair" 32 3 (m__law_scan_pair (m__law_scan 14)) := cal__law_scan_pair T D.f__law_scan_pair (all__law_fits T D) (all__law_at T D) 31 (by decide) (m__law_scan 14) (all__law_scan T D) 
def all__law_scan_word {P : Program} {w : World} {base : Heap} {M : Mx} {c Pt : Addr} (T : Tx M w) (D : Ax M c Pt) : Cal P w base M "_law_scan_word" 32 3 (m__law_scan_word (m__law_scan 14)) := cal__law_scan_word T D.f__law_scan_word (all__law_at T D) (all__law_letters T D) (all__law_is_name T D) (all__law_fits T D) 31 (by decide) (m__law_scan 14) (all__law_scan T D) 
def all__law_due {P : Program} {w : World} {base : Heap} {M : Mx} {c Pt : Addr} (T : Tx M w) (D : Ax M c Pt) : Cal P w base M "_law_due" 32 1 m__law_due := cal__law_due T D.f__law_due (all__law_scan T D)
theorem all_law {P : Program} {w : World} {base : Heap} {M : Mx} {c Pt : Addr} (T : Tx M w) (D : Ax M c Pt) (tb : LamX.TabB base M.mg c Pt) : FnOk P w M.K M.mg base (L2.CX P w) 36 D.f_law.d.f D.f_law.d.fd ["_law_script"] (spD M 1 m_law) := ok_law T D.f_law tb (all__law_begin T D) (all__law_pick T D) (all__law_text T D) (all__law_expression T D) (all__law_draw T D) (all__law_names T D) (all__law_altered T D) (all_parse_expression T D) (all__law_same T D) (all__law_due T D) D.o
end
end Kx

/- part -/
set_option Elab.async false
set_option linter.all false
set_option maxRecDepth 100000
set_option maxHeartbeats 8000000
namespace Kx
open PySem DL PyProof.Rows
def rngL (cs : List Int) (p b s : Int) : List D := [.lst (cs.map .int), .int p, .int b, .int s]
def RngOk (r : List D) : Prop := ∃ (cs : List Int) (p b s : Int), r = rngL cs p b s ∧ 0 ≤ p ∧ 0 ≤ b ∧ 0 ≤ s ∧ s < 2147483549
theorem l2 {i : Int} {k : Nat} (h : i.natAbs < 2 ^ k) (hk : 0 < k) : i.natAbs.log2 < k := log2_lt h hk
theorem pow_ten : powD (.int 10) (.int 18) = some (.im (.int 1000000000000000000)) := by rfl
theorem seq_nx {s t : DM Fl} {ρ ρ1 : SE} {f : Fl} {ρ2 : SE} (h1 : s ρ = .ok .nx ρ1) (h2 : t ρ1 = .ok f ρ2) : sSeq s t ρ = .ok f ρ2 := by
  unfold sSeq
  rw [h1]
  exact h2
theorem ixN41 : L2.ixN 4 1 = some 1 := rfl
theorem ixN42 : L2.ixN 4 2 = some 2 := rfl
theorem ixN43 : L2.ixN 4 3 = some 3 := rfl
theorem w1 : Sml 44111 := by unfold Sml; decide +kernel
theorem w2 : Sml 70001 := by unfold Sml; decide +kernel
theorem w3 : Sml 40699 := by unfold Sml; decide +kernel
theorem w4 : Sml 211 := by unfold Sml; decide +kernel
theorem w5 : Dvs 67 := ⟨by decide, by decide +kernel⟩
theorem w6 : Sml 40009 := by unfold Sml; decide +kernel
theorem draw_ok {r : List D} {n : Int} (hr : RngOk r) (hn : 0 < n) (hb : n < 10 ^ 60) : ∃ (k : Int) (r' : List D), 0 ≤ k ∧ k < n ∧ RngOk r' ∧ m__law_draw [.ow true (.ls r), .im (.int n)] = .ok (.im (.int k)) [.ow true (.ls r'), .im (.int n)] := by
  obtain ⟨cs, p, b, s, rfl, hp, hb0, hs0, hs1⟩ := hr
  have n0 : n ≠ 0 := by omega
  have nl : Dvs n := .of n0 (k := 200) (by omega) (by decide) (by decide)
  have sl : Sml s := .of (k := 32) (by omega) (by decide) (by decide)
  have step : ∀ x : Int, 0 ≤ x.fmod 2147483549 ∧ x.fmod 2147483549 < 2147483549 := fun x => ⟨Int.fmod_nonneg_of_pos _ (by decide), Int.fmod_lt_of_pos _ (by decide)⟩
  have sm : ∀ x : Int, 0 ≤ x → x < 2 ^ 64 → Sml x := fun x h1 h2 => .of (k := 64) (by omega) (by decide) (by decide)
  by_cases hA : b = 0 ∧ p < cs.length
  · obtain ⟨rfl, hA2⟩ := hA
    obtain ⟨c, hc, _⟩ := atI_in hp hA2
    have hc' : L2.atI (cs.map D.int) p = some (.int c) := by
      rw [atI_map, hc]
      rfl
    by_cases hC : 1000000000000000000 ≤ c
    · refine ⟨c.fmod n, rngL cs (p + 1) (c.fdiv n) s, Int.fmod_nonneg_of_pos _ hn, Int.fmod_lt_of_pos _ hn, ⟨cs, p + 1, _, s, rfl, by omega, Int.fdiv_nonneg (by omega) (by omega), hs0, hs1⟩, ?_⟩
      have c0 : 0 < c := by omega
      simp [m__law_draw, mFn, b__law_draw, sSeq, sIf, dAndT, dOp2, dOp1, dVar, dC, dCb, vCons, vNil, sSub, dFz, sSet, stow, sRet, sPass, mRet, outs, out1, rngL, look, asSV, n0, nl, ixN41, ixN42, ixN43, fz, pow_ten, hc', hC, hA2, c0]
    · have m1 := step c
      have e1 : Sml (s * 44111) := sm _ (by omega) (by omega)
      have e2 : Sml (c.fmod 2147483549) := sm _ (by omega) (by omega)
      obtain ⟨s2, es2⟩ : ∃ s2, s2 = (s * 44111 + c.fmod 2147483549 * 70001 + 13).fmod 2147483549 := ⟨_, rfl⟩
      have m2 := step (s * 44111 + c.fmod 2147483549 * 70001 + 13)
      rw [← es2] at m2
      obtain ⟨s3, es3⟩ : ∃ s3, s3 = (s2 * (s2.fmod 65479 + 11) + s2 * 40699 + 70067).fmod 2147483549 := ⟨_, rfl⟩
      have m3 := step (s2 * (s2.fmod 65479 + 11) + s2 * 40699 + 70067)
      rw [← es3] at m3
      have q1 : 0 ≤ s2.fmod 65479 ∧ s2.fmod 65479 < 65479 := ⟨Int.fmod_nonneg_of_pos _ (by decide), Int.fmod_lt_of_pos _ (by decide)⟩
      have q2 : 0 ≤ s3.fmod 7919 ∧ s3.fmod 7919 < 7919 := ⟨Int.fmod_nonneg_of_pos _ (by decide), Int.fmod_lt_of_pos _ (by decide)⟩
      have g1 : Sml s2 := sm _ (by omega) (by omega)
      have g2 : Sml (s2.fmod 65479 + 11) := sm _ (by omega) (by omega)
      have g3 : Sml (s3.fmod 7919) := sm _ (by omega) (by omega)
      refine ⟨(s3.fdiv 67 + s3.fmod 7919 * 211).fmod n, rngL cs (p + 1) 0 s3, Int.fmod_nonneg_of_pos _ hn, Int.fmod_lt_of_pos _ hn, ⟨cs, p + 1, 0, s3, rfl, by omega, by omega, m3.1, m3.2⟩, ?_⟩
      simp [m__law_draw, mFn, b__law_draw, sSeq, sIf, dAndT, dOp2, dOp1, dVar, dC, dCb, vCons, vNil, sSub, dFz, sSet, stow, sRet, sPass, mRet, outs, out1, rngL, look, asSV, n0, nl, ixN41, ixN42, ixN43, fz, pow_ten, hc', hC, hA2, sl, e1, e2, w1, w2, w3, w4, w5, w6, ← es2, g1, g2, ← es3, g3]
  · by_cases hB : 0 < b
    · refine ⟨b.fmod n, rngL cs p (b.fdiv n) s, Int.fmod_nonneg_of_pos _ hn, Int.fmod_lt_of_pos _ hn, ⟨cs, p, _, s, rfl, hp, Int.fdiv_nonneg (by omega) (by omega), hs0, hs1⟩, ?_⟩
      have e0 : ¬ b = 0 := by omega
      simp [m__law_draw, mFn, b__law_draw, sSeq, sIf, dAndT, dOp2, dOp1, dVar, dC, dCb, vCons, vNil, sSub, dFz, sSet, stow, sRet, sPass, mRet, outs, out1, rngL, look, asSV, n0, nl, ixN41, ixN42, ixN43, fz, e0, hB]
    · obtain ⟨s3, es3⟩ : ∃ s3, s3 = (s * (s.fmod 65479 + 11) + s * 40699 + 70067).fmod 2147483549 := ⟨_, rfl⟩
      have m3 := step (s * (s.fmod 65479 + 11) + s * 40699 + 70067)
      rw [← es3] at m3
      have q1 : 0 ≤ s.fmod 65479 ∧ s.fmod 65479 < 65479 := ⟨Int.fmod_nonneg_of_pos _ (by decide), Int.fmod_lt_of_pos _ (by decide)⟩
      have q2 : 0 ≤ s3.fmod 7919 ∧ s3.fmod 7919 < 7919 := ⟨Int.fmod_nonneg_of_pos _ (by decide), Int.fmod_lt_of_pos _ (by decide)⟩
      have g2 : Sml (s.fmod 65479 + 11) := sm _ (by omega) (by omega)
      have g3 : Sml (s3.fmod 7919) := sm _ (by omega) (by omega)
      have b0 : b = 0 := by omega
      subst b0
      have nA : ¬ p < cs.length := fun z => hA ⟨rfl, z⟩
      refine ⟨(s3.fdiv 67 + s3.fmod 7919 * 211).fmod n, rngL cs p 0 s3, Int.fmod_nonneg_of_pos _ hn, Int.fmod_lt_of_pos _ hn, ⟨cs, p, 0, s3, rfl, hp, by omega, m3.1, m3.2⟩, ?_⟩
      simp [m__law_draw, mFn, b__law_draw, sSeq, sIf, dAndT, dOp2, dOp1, dVar, dC, dCb, vCons, vNil, sSub, dFz, sSet, stow, sRet, sPass, mRet, outs, out1, rngL, look, asSV, n0, nl, ixN41, ixN42, ixN43, fz, nA, sl, w1, w2, w3, w4, w5, w6, g2, ← es3, g3]
theorem begin_ok {ns : List Int} (h : ns.length ≤ 63) : ∃ r, RngOk r ∧ m__law_begin [.im (.scr ns)] = .ok (.ow (.ls r)) [.im (.scr ns)] := by
  have sm : ∀ x : Int, 0 ≤ x → x < 2 ^ 64 → Sml x := fun x h1 h2 => .of (k := 64) (by omega) (by decide) (by decide)
  obtain ⟨ρ', e1, s, x, rfl, hs0, hs1, hx⟩ := floop_inv (gm := tgName 2) (b := sSet 1 (dOp2 modD (dOp2 addD (dOp2 addD (dOp2 mulD (dVar 1) (dC (.int 40009))) (dOp2 modD (dVar 2) (dC (.int 2147483549)))) (dC (.int 31))) (dC (.int 2147483549))))
    (I := fun ρ => ∃ (s : Int) (x : SV), ρ = [.im (.scr ns), .im (.int s), x] ∧ 0 ≤ s ∧ s < 2147483549 ∧ ∀ oc, x ≠ .ow true oc) (ds := ns.map D.int) (ρ := [.im (.scr ns), .im (.int (9491 + (ns.length : Int))), .no]) (by
      rintro d hd ρ ⟨s, x, rfl, h0, h1, hx⟩
      obtain ⟨c, _, rfl⟩ := List.mem_map.mp hd
      have e1 := sm s h0 (by omega)
      refine ⟨[.im (.scr ns), .im (.int s), .im (.int c)], .nx, [.im (.scr ns), .im (.int ((s * 40009 + c.fmod 2147483549 + 31).fmod 2147483549)), .im (.int c)], ?_, ?_, .inl rfl, _, _, rfl, Int.fmod_nonneg_of_pos _ (by decide), Int.fmod_lt_of_pos _ (by decide), fun ds z => by cases z⟩
      · cases x with
        | no => simp [tgName, stow]
        | im d => simp [tgName, stow]
        | ow io ds =>
          cases io with
          | true => exact (hx ds rfl).elim
          | false => simp [tgName, stow]
      · simp [sSet, dOp2, dVar, dC, look, asSV, stow, e1, w6]) ⟨_, _, rfl, by omega, by omega, fun ds z => by cases z⟩
  refine ⟨rngL ns 0 0 s, ⟨ns, 0, 0, s, rfl, by decide, by decide, hs0, hs1⟩, ?_⟩
  simp [m__law_begin, mFn, b__law_begin, sSeq, sSet, dOp2, dVar, dC, dCb, vCons, vNil, dSl, oNone, oSome, asPart, look, asSV, stow, sFor, iSeq, iSeqs, dFz, fz, cut63 h, e1, sRet, dLst, aCons, aNil, avD, mRet, outs, out1, rngL]
section
variable {r ds : List D} {n : Int} {Q : RV → SE → Prop} {E : Exc → SE → Prop}
theorem draw_wp (hr : RngOk r) (h0 : 0 < n) (h1 : n < 10 ^ 60) (k : ∀ (k : Int) r', 0 ≤ k → k < n → RngOk r' → Q (.im (.int k)) [.ow true (.ls r'), .im (.int n)]) : WP (m__law_draw [.ow true (.ls r), .im (.int n)]) Q E := by
  obtain ⟨i, r', a, b, c, e⟩ := draw_ok hr h0 h1
  exact .of e (k i r' a b c)
theorem begin_wp {ns : List Int} (h : ns.length ≤ 63) (k : ∀ r, RngOk r → Q (.ow (.ls r)) [.im (.scr ns)]) : WP (m__law_begin [.im (.scr ns)]) Q E := by
  obtain ⟨r, a, e⟩ := begin_ok h
  exact .of e (k r a)
theorem pick_wp (hr : RngOk r) (hd : 0 < ds.length) (hb : ds.length ≤ 1000000) (k : ∀ d r', d ∈ ds → RngOk r' → Q (.im d) [.ow true (.ls r'), .im (.lst ds)]) : WP (m__law_pick [.ow true (.ls r), .im (.lst ds)]) Q E := by
  refine wp_fn ?_
  simp [b__law_pick]
  refine draw_wp hr (by omega) (by omega) fun i r' h0 h1 hr' => ?_
  obtain ⟨d, e2, hm⟩ := atI_in h0 h1
  simp [e2]
  exact k d r' hm hr'
end
end Kx

/- part -/
set_option Elab.async false
set_option linter.all false
set_option maxRecDepth 100000
set_option maxHeartbeats 8000000
namespace Kx
open PySem DL PyProof.Rows
theorem gAbs_int (i : Int) : gAbs [.int i] = some (.im (.int ((i.natAbs : Nat) : Int))) := by
  show some (RV.im (.int (if i < 0 then -i else i))) = _
  congr 3
  split <;> omega
theorem inD_strs (x : Str) (ys : List Str) : inD false (.str x) (.tup (ys.map D.str)) = some (.im (.bl (ys.any fun y => y == x))) := by
  have fl : (ys.map D.str).all flat = true := by
    rw [List.all_map]
    exact List.all_eq_true.mpr fun _ _ => rfl
  show (if (flat (.str x) && (ys.map D.str).all flat) = true then some (RV.im (.bl (false != (ys.map D.str).any fun y => eqv y (.str x)))) else none) = _
  rw [fl, if_pos (by rfl), List.any_map, Bool.false_bne]
  rfl
theorem app_ok {ds : List D} {d : D} (h : ds.length < 1000000) : gAppend ds [d] = some (.non, ds ++ [d]) := if_pos h
theorem fm_nat (m n : Nat) : (m : Int).fmod (n : Int) = ((m % n : Nat) : Int) := by
  rw [Int.fmod_eq_emod_of_nonneg _ (Int.natCast_nonneg n)]
  first
    | rfl
    | exact (Int.natCast_emod m n).symm
    | exact (Int.natCast_mod m n).symm
theorem while_stop {c : DM Bool} {b : DM Fl} {ρ ρ1 : SE} (h : c ρ = .ok false ρ1) : sWhile c b ρ = .ok .nx ρ1 := by
  rw [sWhile_eq, h]
  rfl
theorem while_go {c : DM Bool} {b : DM Fl} {ρ ρ1 ρ2 : SE} {r : R Fl} (h : c ρ = .ok true ρ1) (hb : b ρ1 = .ok .nx ρ2) (hr : sWhile c b ρ2 = r) : sWhile c b ρ = r := by
  rw [sWhile_eq, h, bind_okA, if_pos rfl, hb, bind_okA]
  exact hr
theorem gcd_step (m n : Nat) : Nat.gcd n (m % n) = Nat.gcd m n := by rw [Nat.gcd_comm n, ← Nat.gcd_rec, Nat.gcd_comm]
theorem cd_loop : ∀ (n m : Nat), sWhile (fun ρ => (dOp2 neD (dVar 1) (dC (.int 0)) ρ).bind asB) (sPar 0 1 (aCons (dVar 1) (aCons (dOp2 modD (dVar 0) (dVar 1)) (aNil)))) [.im (.int m), .im (.int n)] = .ok .nx [.im (.int (Nat.gcd m n)), .im (.int 0)] := by
  intro n
  induction n using Nat.strongRecOn with
  | ind n ih =>
    intro m
    by_cases h : n = 0
    · subst h
      rw [Nat.gcd_zero_right]
      exact while_stop (by simp [dOp2, dVar, dC, look])
    · have hn : (n : Int) ≠ 0 := by omega
      refine while_go (ρ2 := [.im (.int (n : Int)), .im (.int ((m % n : Nat) : Int))]) (ρ1 := [.im (.int m), .im (.int n)]) (by simp [dOp2, dVar, dC, look, h]) ?_ ((ih (m % n) (Nat.mod_lt _ (by omega)) n).trans (by rw [gcd_step]))
      have hm : modD (.int (m : Int)) (.int (n : Int)) = some (.im (.int ((m % n : Nat) : Int))) := by rw [modD_A hn, fm_nat]
      simp [dOp2, dVar, look, sPar, aCons, aNil, dFz, stow, hm]
theorem lo_loop (A B : SV) : ∀ (n m : Nat), sWhile (fun ρ => (dOp2 neD (dVar 3) (dC (.int 0)) ρ).bind asB) (sPar 2 3 (aCons (dVar 3) (aCons (dOp2 modD (dVar 2) (dVar 3)) (aNil)))) [A, B, .im (.int m), .im (.int n)] = .ok .nx [A, B, .im (.int (Nat.gcd m n)), .im (.int 0)] := by
  intro n
  induction n using Nat.strongRecOn with
  | ind n ih =>
    intro m
    by_cases h : n = 0
    · subst h
      rw [Nat.gcd_zero_right]
      exact while_stop (by simp [dOp2, dVar, dC, look])
    · have hn : (n : Int) ≠ 0 := by omega
      refine while_go (ρ2 := [A, B, .im (.int (n : Int)), .im (.int ((m % n : Nat) : Int))]) (ρ1 := [A, B, .im (.int m), .im (.int n)]) (by simp [dOp2, dVar, dC, look, h]) ?_ ((ih (m % n) (Nat.mod_lt _ (by omega)) n).trans (by rw [gcd_step]))
      have hm : modD (.int (m : Int)) (.int (n : Int)) = some (.im (.int ((m % n : Nat) : Int))) := by rw [modD_A hn, fm_nat]
      simp [dOp2, dVar, look, sPar, aCons, aNil, dFz, stow, hm]
def gI (a b : Int) : Int := (Nat.gcd a.natAbs b.natAbs : Nat)
def nI (a b : Int) : Int := if b < 0 then 0 - a else a
def dI (b : Int) : Int := if b < 0 then 0 - b else b
def frD (a b : Int) : D := .tup [.int ((nI a b).fdiv (gI a b)), .int ((dI b).fdiv (gI a b))]
theorem gI_dvs {a b : Int} (hb : b ≠ 0) (hz : b.natAbs < 2 ^ 8900) : Dvs (gI a b) := by
  have h0 : 0 < Nat.gcd a.natAbs b.natAbs := Nat.gcd_pos_of_pos_right _ (by omega)
  have h1 : Nat.gcd a.natAbs b.natAbs ≤ b.natAbs := Nat.gcd_le_right _ (by omega)
  refine .of (k := 8900) ?_ ?_ (by decide) (by decide)
  · show ((Nat.gcd a.natAbs b.natAbs : Nat) : Int) ≠ 0
    omega
  · show ((Nat.gcd a.natAbs b.natAbs : Nat) : Int).natAbs < 2 ^ 8900
    omega
theorem abs_nI {a b : Int} : (((nI a b).natAbs : Nat) : Int) = ((a.natAbs : Nat) : Int) := by
  unfold nI
  split <;> omega
theorem dI_nat {b : Int} : dI b = ((b.natAbs : Nat) : Int) := by
  unfold dI
  split <;> omega
theorem cd_ok (m n : Nat) : m_common_divisor [.im (.int m), .im (.int n)] = .ok (.im (.int (Nat.gcd m n))) [.im (.int m), .im (.int n)] := by
  have e := seq_nx (cd_loop n m) (show sRet (dVar 0) [.im (.int (Nat.gcd m n)), .im (.int 0)] = .ok (.rt (.im (.int (Nat.gcd m n)))) [.im (.int (Nat.gcd m n)), .im (.int 0)] from rfl)
  show (match b_common_divisor [.im (.int m), .im (.int n)] with
    | .bad => (R.bad : R RV)
    | .ok f ρ => mRet [.im (.int m), .im (.int n)] f ρ
    | .ex e ρ => .ex e (outs [.im (.int m), .im (.int n)] ρ)) = _
  rw [show b_common_divisor [.im (.int m), .im (.int n)] = _ from e]
  rfl
theorem low_ok {a b : Int} (hb : b ≠ 0) (hz : b.natAbs < 2 ^ 8900) : m__law_lowest [.im (.int a), .im (.int b)] = .ok (.im (frD a b)) [.im (.int a), .im (.int b)] := by
  have dv := gI_dvs (a := a) hb hz
  have e3 : sPar 2 3 (aCons (dCb gAbs (vCons (dVar 0) (vNil))) (aCons (dVar 1) (aNil))) [.im (.int (nI a b)), .im (.int (dI b)), .no, .no] = .ok .nx [.im (.int (nI a b)), .im (.int (dI b)), .im (.int ((a.natAbs : Nat) : Int)), .im (.int ((b.natAbs : Nat) : Int))] := by
    rw [(abs_nI (a := a) (b := b)).symm, (dI_nat (b := b)).symm]
    simp [sPar, aCons, aNil, dFz, dCb, vCons, vNil, dVar, look, gAbs_int, stow]
  have e4 := lo_loop (.im (.int (nI a b))) (.im (.int (dI b))) b.natAbs a.natAbs
  have e5 : sRet (dTup (aCons (dOp2 fdivD (dVar 0) (dVar 2)) (aCons (dOp2 fdivD (dVar 1) (dVar 2)) (aNil)))) [.im (.int (nI a b)), .im (.int (dI b)), .im (.int (gI a b)), .im (.int 0)] = .ok (.rt (.im (frD a b))) [.im (.int (nI a b)), .im (.int (dI b)), .im (.int (gI a b)), .im (.int 0)] := by
    simp [sRet, dTup, aCons, aNil, dFz, dOp2, dVar, look, dv, avD, frD]
  have e2 : sIf (fun ρ => (dOp2 ltD (dVar 1) (dC (.int 0)) ρ).bind asB) (sPar 0 1 (aCons (dOp2 subD (dC (.int 0)) (dVar 0)) (aCons (dOp2 subD (dC (.int 0)) (dVar 1)) (aNil)))) (sPass) [.im (.int a), .im (.int b), .no, .no] = .ok .nx [.im (.int (nI a b)), .im (.int (dI b)), .no, .no] := by
    by_cases h : b < 0 <;> simp [sIf, dOp2, dVar, dC, look, h, sPass, nI, dI, sPar, aCons, aNil, dFz, stow]
  have e := seq_nx e2 (seq_nx e3 (seq_nx e4 e5))
  show (match b__law_lowest [.im (.int a), .im (.int b), .no, .no] with
    | .bad => (R.bad : R RV)
    | .ok f ρ => mRet [.im (.int a), .im (.int b)] f ρ
    | .ex e ρ => .ex e (outs [.im (.int a), .im (.int b)] ρ)) = _
  rw [show b__law_lowest [.im (.int a), .im (.int b), .no, .no] = _ from e]
  rfl
end Kx

/- part -/
set_option Elab.async false
set_option linter.all false
set_option maxRecDepth 100000
set_option maxHeartbeats 8000000
namespace Kx
open PySem DL PyProof.Rows
mutual
def sg : Nat → D → Bool
  | 0, _ => false
  | _ + 1, .non => true
  | _ + 1, .bl _ => true
  | _ + 1, .int _ => true
  | _ + 1, .str x => okc (.str x)
  | n + 1, .tup ds => decide (ds.length ≤ 1000000) && sgs n ds
  | n + 1, .lst ds => decide (ds.length ≤ 1000000) && sgs n ds
  | _ + 1, _ => false
def sgs : Nat → List D → Bool
  | _, [] => true
  | n, d :: r => sg n d && sgs n r
end
theorem sgs_mem {n : Nat} : ∀ {ds : List D}, sgs n ds = true → ∀ d ∈ ds, sg n d = true
  | d :: r, h, x, hx => by
    unfold sgs at h
    obtain ⟨h1, h2⟩ := Bool.and_eq_true_iff.mp h
    rcases List.mem_cons.mp hx with rfl | hx
    · exact h1
    · exact sgs_mem h2 x hx
theorem same_self : ∀ (n : Nat) (d : D), sg n d = true → m__law_same n [.im d, .im d] = .ok (.im (.bl true)) [.im d, .im d]
  | 0, d, h => by
    unfold sg at h
    cases h
  | n + 1, d, h => by
    have seq : ∀ ds : List D, ds.length ≤ 1000000 → sgs n ds = true → ∀ (a b : SV), cLoop [2, 3] (tgTup 2 (tgCons (tgName 2) (tgCons (tgName 3) tgNil))) tYesD (dCall 2 [] (m__law_same n) (aCons (dVar 2) (aCons (dVar 3) aNil))) (zipD ds ds) [] [a, b, .no, .no] = .ok ((zipD ds ds).map fun _ => .bl true) [a, b, .no, .no] := fun ds hl hs a b => by
      refine (cLoop_map (f := fun _ => .bl true) rfl (fun d hd => ?_) (by
        unfold zipD
        rw [List.length_zipWith]
        simp
        omega)).trans (by rw [List.nil_append])
      obtain ⟨i, hi⟩ := List.mem_iff_getElem?.mp hd
      obtain ⟨x, y, h1, h2, rfl⟩ := DL.zip_get hi
      rw [h1] at h2
      cases h2
      have e := same_self n x (sgs_mem hs x (List.mem_of_getElem? h1))
      refine Wp.eq ?_
      simp [e, rest]
    have es : m__law_same (n + 1) = mFn n__law_same.length (b__law_same (m__law_same n)) := rfl
    rw [es]
    refine Wp.eq (wp_fn ?_)
    cases d with
    | non => simp [b__law_same, isND, isNone]
    | bl b => simp [b__law_same, isND, isNone, isT]
    | int i => simp [b__law_same, isND, isNone, isT]
    | str x =>
      have ok : SOk x := by
        unfold sg at h
        exact h
      simp [b__law_same, isND, isNone, isT, eqD_strA ok ok]
    | tup ds =>
      unfold sg at h
      obtain ⟨h1, h2⟩ := Bool.and_eq_true_iff.mp h
      have s := seq ds (of_decide_eq_true h1) h2
      simp [b__law_same, isND, isNone, isT, s, gAll, asBls_trues]
    | lst ds =>
      unfold sg at h
      obtain ⟨h1, h2⟩ := Bool.and_eq_true_iff.mp h
      have s := seq ds (of_decide_eq_true h1) h2
      simp [b__law_same, isND, isNone, isT, s, gAll, asBls_trues]
    | _ =>
      unfold sg at h
      cases h
theorem sok_of {x : Str} (h : x.cps.all (· < 0x110000) = true) : SOk x := by
  have e1 : plain 64 (.str x) = true := rfl
  have e2 : SeqAt.shaped (toPy (.str x)) = true := by
    have a1 : (PyData.str x).canLay0 = true := h
    have a2 : (PyData.str x).depth ≤ 64 := by
      show _ ≤ _
      simp [PyData.depth]
    show (PyData.canLay0 (PyData.str x) && decide ((PyData.str x).depth ≤ 64)) = true
    rw [a1, decide_eq_true a2]
    rfl
  show (plain 64 (.str x) && SeqAt.shaped (toPy (.str x))) = true
  rw [e1, e2]
  rfl
theorem sok_lit (s : String) : (Str.ofString s).cps.all (· < 0x110000) = true := by
  rw [Str.ofString_eq_toList]
  rw [Array.all_eq_true']
  intro c hc
  have hc : c ∈ (s.toList.map Char.toNat).toArray := hc
  obtain ⟨ch, _, rfl⟩ := List.mem_map.mp (by simpa using hc)
  have := ch.valid
  have h2 : ch.toNat < 0x110000 := by
    rcases this with z | ⟨_, z⟩
    · exact Nat.lt_trans z (by decide)
    · exact z
  exact decide_eq_true h2
theorem fr_pos {a b : Int} (hb : 0 < b) : frD a b = .tup [.int (a / gI a b), .int (b / gI a b)] := by
  have g0 : 0 ≤ gI a b := by
    show (0 : Int) ≤ (Nat.gcd a.natAbs b.natAbs : Nat)
    omega
  unfold frD nI dI
  rw [if_neg (by omega), if_neg (by omega), Int.fdiv_eq_ediv_of_nonneg _ g0, Int.fdiv_eq_ediv_of_nonneg _ g0]
theorem gI_pos {a b : Int} (hb : 0 < b) : 0 < gI a b := by
  have : 0 < Nat.gcd a.natAbs b.natAbs := Nat.gcd_pos_of_pos_right _ (by omega)
  show (0 : Int) < (Nat.gcd a.natAbs b.natAbs : Nat)
  omega
theorem fr_parts {a b : Int} (hb : 0 < b) : ∃ n d : Int, frD a b = .tup [.int n, .int d] ∧ 0 < d ∧ d ≤ b ∧ n * b = a * d ∧ n.natAbs ≤ a.natAbs := by
  have g0 := gI_pos (a := a) hb
  have d1 : gI a b ∣ a := by
    unfold gI
    exact Int.ofNat_dvd_left.mpr (Nat.gcd_dvd_left _ _)
  have d2 : gI a b ∣ b := by
    unfold gI
    exact Int.ofNat_dvd_left.mpr (Nat.gcd_dvd_right _ _)
  obtain ⟨p, hp⟩ := d1
  obtain ⟨q, hq⟩ := d2
  have e1 : a / gI a b = p := by
    rw [Int.ediv_eq_of_eq_mul_right (by omega) hp]
  have e2 : b / gI a b = q := by
    rw [Int.ediv_eq_of_eq_mul_right (by omega) hq]
  have q0 : 0 < q := by
    by_cases z : 0 < q
    · exact z
    · have := Int.mul_le_mul_of_nonneg_left (show q ≤ 0 by omega) (show 0 ≤ gI a b by omega)
      omega
  refine ⟨p, q, by rw [fr_pos hb, e1, e2], q0, ?_, ?_, ?_⟩
  · have : 1 * q ≤ gI a b * q := Int.mul_le_mul_of_nonneg_right (by omega) (by omega)
    omega
  · have h1 : p * b = p * (gI a b * q) := by rw [← hq]
    have h2 : a * q = gI a b * p * q := by rw [← hp]
    rw [h1, h2, ← Int.mul_assoc, Int.mul_comm p]
  · have : a.natAbs = (gI a b).natAbs * p.natAbs := by rw [← Int.natAbs_mul, ← hp]
    have h3 : 1 ≤ (gI a b).natAbs := by omega
    have := Nat.mul_le_mul_right p.natAbs h3
    omega
@[simp] theorem unl_fr {a b : Int} : unl (frD a b) = frD a b := rfl
def Imm (x : SV) : Prop := x = .no ∨ ∃ d, x = .im d
theorem Imm.nio {x : SV} (h : Imm x) : Nio x := by
  rcases h with rfl | ⟨d, rfl⟩
  · exact nio_no
  · exact nio_im
theorem imm_im {d : D} : Imm (.im d) := .inr ⟨d, rfl⟩
section
variable {α : Type} {vs : List Nat} {gm : D → SE → R Unit} {mt : DM Bool} {me : DM RV} {Q : List D → SE → Prop} {E : Exc → SE → Prop} {ds : List D} {ρ : SE}
theorem wp_cmapG (g f : α → D) (xs : List α) (hds : ds = xs.map g) (hn : noOw ρ vs = true) (hz : xs.length ≤ 1000000) (h : ∀ a ∈ xs, WP (cTurn vs gm mt me (g a) ρ) (fun o ρ1 => o = some (f a) ∧ ρ1 = ρ) noX) (k : Q (xs.map f) ρ) : WP (cLoop vs gm mt me ds [] ρ) Q E := by
  subst hds
  refine wp_cloopJ (fun i acc ρ1 => acc = (xs.take i).map f ∧ ρ1 = ρ) (by simpa using hz) ⟨rfl, rfl⟩ ?_ ?_ ?_
  · rintro i acc ρ1 ⟨rfl, rfl⟩
    exact ⟨hn, by rw [List.length_map, List.length_take]; omega⟩
  · rintro i d acc ρ1 J hi ⟨rfl, rfl⟩ hJ
    rw [List.getElem?_map] at hi
    obtain ⟨a, ha, rfl⟩ := Option.map_eq_some_iff.mp hi
    obtain ⟨li, ea⟩ := List.getElem?_eq_some_iff.mp ha
    have e := Wp.eq (h a (List.mem_of_getElem? ha))
    refine .of e (hJ _ _ ⟨?_, rfl⟩)
    rw [List.take_succ_eq_append_getElem li, ea, List.map_append]
    rfl
  · rintro acc ρ1 ⟨rfl, rfl⟩
    rw [List.length_map, List.take_length]
    exact k
end
end Kx

/- part -/
set_option Elab.async false
set_option linter.all false
set_option maxRecDepth 100000
set_option maxHeartbeats 8000000
namespace Kx
open PySem DL PyProof.Rows
def qD (q : Rat) : D := .tup [.int q.num, .int (q.den : Int)]
theorem frD_rat {a b : Int} (hb : 0 < b) : frD a b = qD ((a : Rat) / (b : Rat)) := by
  rw [fr_pos hb, ← Rat.divInt_eq_div]
  unfold qD
  rw [Rat.num_divInt, Rat.den_divInt, if_neg (by omega), Int.sign_eq_one_of_pos hb, Int.one_mul]
  have e : gI a b = ((b.gcd a : Nat) : Int) := by
    unfold gI
    rw [Nat.gcd_comm]
    rfl
  rw [e, Int.natCast_ediv, Int.natAbs_of_nonneg (by omega)]
def Qz (k : Nat) (q : Rat) : Prop := q.num.natAbs < 2 ^ k ∧ q.den < 2 ^ k
theorem Qz.mono {k j : Nat} {q : Rat} (h : Qz k q) (hk : k ≤ j) : Qz j q := ⟨Nat.lt_of_lt_of_le h.1 (Nat.pow_le_pow_right (by decide) hk), Nat.lt_of_lt_of_le h.2 (Nat.pow_le_pow_right (by decide) hk)⟩
theorem Qz.sn {k : Nat} {q : Rat} (h : Qz k q) (hk : k ≤ 100000) : Sml q.num := Sml.of (k := k + 1) (Nat.lt_of_lt_of_le h.1 (Nat.pow_le_pow_right (by decide) (by omega))) (by omega) (by omega)
theorem den_pos (q : Rat) : 0 < (q.den : Int) := by
  have := q.den_pos
  omega
theorem Qz.int {k : Nat} {d : Int} (h : d.natAbs < 2 ^ k) (hk : 0 < k) : Qz k (d : Rat) := ⟨h, Nat.one_lt_two_pow (by omega)⟩
@[simp] theorem unl_q {q : Rat} : unl (qD q) = qD q := rfl
theorem den_mk_le (a : Int) {b : Nat} (hb : b ≠ 0) : (mkRat a b).den ≤ b := by
  rw [Rat.den_mkRat, if_neg hb]
  exact Nat.div_le_self _ _
theorem den_ne (x y : Rat) : x.den * y.den ≠ 0 := Nat.ne_of_gt (Nat.mul_pos x.den_pos y.den_pos)
theorem pow_two_k (k : Nat) : 2 ^ k * 2 ^ k = 2 ^ (2 * k) := by rw [← Nat.pow_add]; congr 1; omega
theorem mk_z {a : Int} {b j : Nat} (hb : b ≠ 0) (ha : a.natAbs < 2 ^ j) (hj : b < 2 ^ j) : Qz j (mkRat a b) := by
  constructor
  · rw [Rat.num_mkRat, if_neg hb]
    exact Nat.lt_of_le_of_lt (Int.natAbs_ediv_le_natAbs _ _) ha
  · exact Nat.lt_of_le_of_lt (den_mk_le a hb) hj
theorem den2_z {k : Nat} {x y : Rat} (hx : Qz k x) (hy : Qz k y) : x.den * y.den < 2 ^ (2 * k) := by
  rw [← pow_two_k]
  exact Nat.mul_lt_mul'' hx.2 hy.2
theorem nd_z {k : Nat} {x y : Rat} (hx : Qz k x) (hy : Qz k y) : (x.num * (y.den : Int)).natAbs < 2 ^ (2 * k) := by
  rw [Int.natAbs_mul, ← pow_two_k]
  exact Nat.mul_lt_mul'' hx.1 (by simpa using hy.2)
theorem pow_succ2 (k : Nat) : 2 ^ (2 * k + 1) = 2 ^ (2 * k) + 2 ^ (2 * k) := by rw [Nat.pow_succ]; omega
theorem Qz.add {k : Nat} {x y : Rat} (hx : Qz k x) (hy : Qz k y) : Qz (2 * k + 1) (x + y) := by
  rw [Rat.add_def']
  have a1 := nd_z hx hy
  have a2 := nd_z hy hx
  have a3 := den2_z hx hy
  have e := pow_succ2 k
  exact mk_z (den_ne x y) (by omega) (by omega)
theorem Qz.sub {k : Nat} {x y : Rat} (hx : Qz k x) (hy : Qz k y) : Qz (2 * k + 1) (x - y) := by
  rw [Rat.sub_def']
  have a1 := nd_z hx hy
  have a2 := nd_z hy hx
  have a3 := den2_z hx hy
  have e := pow_succ2 k
  exact mk_z (den_ne x y) (by omega) (by omega)
theorem Qz.mul {k : Nat} {x y : Rat} (hx : Qz k x) (hy : Qz k y) : Qz (2 * k + 1) (x * y) := by
  rw [Rat.mul_def']
  have a1 : (x.num * y.num).natAbs < 2 ^ (2 * k) := by
    rw [Int.natAbs_mul, ← pow_two_k]
    exact Nat.mul_lt_mul'' hx.1 hy.1
  have a3 := den2_z hx hy
  have e := pow_succ2 k
  exact mk_z (den_ne x y) (by omega) (by omega)
end Kx

/- part -/
set_option Elab.async false
set_option linter.all false
set_option maxRecDepth 100000
set_option maxHeartbeats 8000000
namespace Kx
open PySem DL PyProof.Rows
abbrev abc : Str := "abcdefghijklmnopqrstuvwxyz"
def tx (l : List Nat) : Str := ⟨l.toArray⟩
def lowc (c : Nat) : Bool := decide (97 ≤ c) && decide (c ≤ 122)
def NmOk (x : Str) : Prop := (∀ c ∈ x.cps.toList, lowc c = true) ∧ 2 ≤ x.length ∧ x.length ≤ 8 ∧ x ≠ "abs" ∧ x ≠ "max" ∧ x ≠ "min"
theorem tx_cps {l : List Nat} : (tx l).cps.toList = l := rfl
theorem tx_len {l : List Nat} : (tx l).length = l.length := rfl
theorem tx_app {l m : List Nat} : tx l ++ tx m = tx (l ++ m) := by
  show Str.mk (l.toArray ++ m.toArray) = Str.mk (l ++ m).toArray
  congr 1
  simp
theorem tx_inj {l m : List Nat} (h : tx l = tx m) : l = m := by
  have := congrArg (fun x : Str => x.cps.toList) h
  exact this
theorem tx_of (x : Str) : x = tx x.cps.toList := by
  cases x
  rfl
theorem low_okc {x : Str} (h : ∀ c ∈ x.cps.toList, lowc c = true) : x.cps.all (· < 0x110000) = true := by
  rw [Array.all_eq_true']
  intro c hc
  have := h c (by simpa using hc)
  unfold lowc at this
  simp at this
  exact decide_eq_true (by omega)
theorem NmOk.okc {x : Str} (h : NmOk x) : x.cps.all (· < 0x110000) = true := low_okc h.1
theorem letters_ok : m__law_letters [] = .ok (.im (.str abc)) [] := by
  refine Wp.eq (wp_fn ?_)
  simp [b__law_letters]
theorem strs_signs : ∀ cs : List Nat, strsO (cs.map fun c => D.str ⟨#[c]⟩) = some (cs.map fun c => (⟨#[c]⟩ : Str))
  | [] => rfl
  | c :: cs => by
    show (strsO (cs.map fun c => D.str ⟨#[c]⟩)).map _ = _
    rw [strs_signs cs]
    rfl
theorem join_signs : ∀ cs : List Nat, Txt.join "" (cs.map fun c => (⟨#[c]⟩ : Str)) = tx cs := fun cs => by
  show Builtin.Str.glued "" _ = _
  rw [PySem.StrLaws.glued_eq_join]
  induction cs with
  | nil => rfl
  | cons c cs ih =>
    cases cs with
    | nil => rfl
    | cons d cs =>
      have e : Str.join "" ((⟨#[c]⟩ : Str) :: (⟨#[d]⟩ : Str) :: cs.map fun c => (⟨#[c]⟩ : Str)) = (⟨#[c]⟩ : Str) ++ "" ++ Str.join "" ((⟨#[d]⟩ : Str) :: cs.map fun c => (⟨#[c]⟩ : Str)) := rfl
      rw [List.map_cons] at ih
      rw [List.map_cons, List.map_cons, e, ih]
      have e2 : (⟨#[c]⟩ : Str) ++ Str.ofString "" = tx [c] := by
        show Str.mk (#[c] ++ (Str.ofString "").cps) = _
        have : (Str.ofString "").cps = #[] := by decide +kernel
        rw [this]
        rfl
      rw [e2, tx_app]
      rfl
theorem join_tx {cs : List Nat} (h : cs.length ≤ 1000000) : joinD (.str "") (.lst (cs.map fun c => D.str ⟨#[c]⟩)) = some (.im (.str (tx cs))) := by
  show (strsO _).bind _ = _
  rw [strs_signs]
  have e0 : (Str.ofString "").length = 0 := by decide +kernel
  have e1 : ∀ cs : List Nat, ((cs.map fun c => (⟨#[c]⟩ : Str)).map (·.length)).sum = cs.length := fun cs => by
    induction cs with
    | nil => rfl
    | cons c cs ih =>
      rw [List.map_cons, List.map_cons, List.sum_cons, ih, List.length_cons]
      show 1 + _ = _
      omega
  show (if ((cs.map fun c => (⟨#[c]⟩ : Str)).map (·.length)).sum + (cs.map fun c => (⟨#[c]⟩ : Str)).length * (Str.ofString "").length ≤ 16777216 then some (RV.im (.str (Txt.join "" (cs.map fun c => (⟨#[c]⟩ : Str))))) else none) = _
  rw [if_pos (by rw [e1, e0]; omega), join_signs]
theorem cut_to {l : List Nat} {k : Nat} (h : k ≤ l.length) : L2.cutS (tx l) none (some (k : Int)) = tx (l.take k) := by
  unfold L2.cutS
  have e : HT.sIx (tx l).length (tx l).length (some (k : Int)) = k := by
    have := HT.sIx_nat (tx l).length (tx l).length k
    rw [this, tx_len]
    omega
  rw [e, HT.sIx_none]
  simp [tx]
theorem cut_from {l : List Nat} {k : Nat} (h : k ≤ l.length) : L2.cutS (tx l) (some (k : Int)) none = tx (l.drop k) := by
  unfold L2.cutS
  have e : HT.sIx (tx l).length 0 (some (k : Int)) = k := by
    have := HT.sIx_nat (tx l).length 0 k
    rw [this, tx_len]
    omega
  have e2 : (l.drop k).take (l.length - k) = l.drop k := List.take_of_length_le (by rw [List.length_drop]; exact Nat.le_refl _)
  rw [e, HT.sIx_none, tx_len, tx_cps, e2]
  rfl
theorem sl_str {x : Str} {lo hi : Option Int} (h : x.length ≤ 1000000) : slD (.str x) lo hi = some (.im (.str (L2.cutS x lo hi))) := by
  show (if _ then _ else none) = _
  rw [if_pos h]
theorem abc_at {i : Int} (h0 : 0 ≤ i) (h1 : i < 26) : ixD (.str abc) (.int i) = some (.im (.str ⟨#[(97 + i).toNat]⟩)) := by
  obtain ⟨n, rfl⟩ := Int.eq_ofNat_of_zero_le h0
  have h1 : n < 26 := by omega
  have el : abc.cps.toList = (List.range 26).map (97 + ·) := by decide +kernel
  have ea : abc.length ≤ 1000000 := by
    have : abc.length = 26 := by decide +kernel
    omega
  show (if abc.length ≤ 1000000 then (L2.atI abc.cps.toList (n : Int)).map fun c => RV.im (.str ⟨#[c]⟩) else none) = _
  rw [if_pos ea, el, L2.atI_nat (v := 97 + n) (by rw [List.getElem?_map, List.getElem?_range h1]; rfl)]
  show some (RV.im (.str ⟨#[97 + n]⟩)) = _
  congr 5
end Kx

/- part -/
set_option Elab.async false
set_option linter.all false
set_option maxRecDepth 100000
set_option maxHeartbeats 8000000
namespace Kx
open PySem DL PyProof.Rows
theorem low_let {i : Int} (h0 : 0 ≤ i) (h1 : i < 26) : lowc (97 + i).toNat = true := by
  unfold lowc
  simp
  omega
theorem pick_abc {r : List D} {Q : RV → SE → Prop} {E : Exc → SE → Prop} (hr : RngOk r) (k : ∀ c r', lowc c = true → RngOk r' → Q (.im (.str ⟨#[c]⟩)) [.ow true (.ls r'), .im (.str abc)]) : WP (m__law_pick [.ow true (.ls r), .im (.str abc)]) Q E := by
  have ha : abc.length = 26 := by decide +kernel
  refine wp_fn ?_
  simp [b__law_pick, gLen_str (show abc.length ≤ 1000000 by omega), ha]
  refine draw_wp hr (by omega) (by omega) fun i r' h0 h1 hr' => ?_
  simp [abc_at h0 h1]
  exact k _ r' (low_let h0 h1) hr'
theorem name_of {base : List Nat} {k : Nat} {c : Nat} (hb : ∀ c ∈ base, lowc c = true) (hk : k < base.length) (hc : lowc c = true) : (∀ d ∈ base.take k ++ [c] ++ base.drop (k + 1), lowc d = true) ∧ (base.take k ++ [c] ++ base.drop (k + 1)).length = base.length := by
  refine ⟨fun d hd => ?_, ?_⟩
  · rw [List.mem_append, List.mem_append, List.mem_singleton] at hd
    rcases hd with (hd | rfl) | hd
    · exact hb d (List.mem_of_mem_take hd)
    · exact hc
    · exact hb d (List.mem_of_mem_drop hd)
  · simp
    omega
theorem in_names {x : Str} {l : List Str} (hx : x.cps.all (· < 0x110000) = true) (h : ∀ y ∈ l, y.cps.all (· < 0x110000) = true) : inD false (.str x) (.lst (l.map D.str)) = some (.im (.bl (decide (x ∈ l)))) := by
  have p : ∀ (l : List Str), (∀ y ∈ l, y.cps.all (· < 0x110000) = true) → pgs 1 (l.map D.str) = true := fun l h => by
    induction l with
    | nil => unfold pgs; rfl
    | cons y l ih =>
      rw [List.map_cons]
      unfold pgs
      rw [ih fun z hz => h z (List.mem_cons_of_mem _ hz)]
      unfold pg
      rw [h y List.mem_cons_self]
      rfl
  have ok1 : okc (.str x) = true := okc_of (n := 1) (by unfold pg; exact hx) (by decide)
  have ok2 : okc (.lst (l.map D.str)) = true := okc_of (n := 2) (by unfold pg; exact p l h) (by decide)
  show (if (okc (.str x) && okc (.lst (l.map D.str))) = true then some (RV.im (.bl (false != (l.map D.str).any fun y => eqv y (.str x)))) else none) = _
  rw [ok1, ok2, if_pos (by rfl), List.any_map, Bool.false_bne]
  congr 3
  rw [Bool.eq_iff_iff, List.any_eq_true, decide_eq_true_iff]
  constructor
  · rintro ⟨y, hy, e⟩
    have : y = x := eq_of_beq (show (y == x) = true from e)
    exact this ▸ hy
  · exact fun m => ⟨x, m, show (x == x) = true from beq_self_eq_true x⟩
theorem ends_q {x : Str} : x ++ Str.ofString "q" ≠ "abs" ∧ x ++ Str.ofString "q" ≠ "max" ∧ x ++ Str.ofString "q" ≠ "min" := by
  have e : ∀ (y : Str), (x ++ Str.ofString "q" = y) → y.cps.toList.getLast? = some 113 := fun y h => by
    rw [← h]
    show (x.cps ++ #[113]).toList.getLast? = _
    simp
  refine ⟨fun h => ?_, fun h => ?_, fun h => ?_⟩ <;> · have := e _ h; revert this; decide +kernel
end Kx

/- part -/
set_option Elab.async false
set_option linter.all false
set_option maxRecDepth 100000
set_option maxHeartbeats 8000000
namespace Kx
open PySem DL PyProof.Rows
theorem names_wpN {r : List D} {many : Int} {Q : RV → SE → Prop} {E : Exc → SE → Prop} (hr : RngOk r) (h0 : 0 ≤ many) (h1 : many ≤ 26)
    (k : ∀ (l : List Str) r', (l.length : Int) = many → (∀ x ∈ l, NmOk x) → l.Nodup → RngOk r' → Q (.ow (.ls (l.map D.str))) [.ow true (.ls r'), .im (.int many)]) : WP (m__law_names [.ow true (.ls r), .im (.int many)]) Q E := by
  refine wp_fn ?_
  simp [b__law_names]
  refine draw_wp hr (by omega) (by omega) fun k1 r1 a1 a2 hr1 => ?_
  simp
  refine pick_wp hr1 (by simp) (by simp) fun d2 r2 hd2 hr2 => ?_
  obtain ⟨st, rfl, ⟨s1, st5⟩, s2⟩ : ∃ st : Int, d2 = .int st ∧ (1 ≤ st ∧ (st = 1 ∨ st = 3 ∨ st = 5 ∨ st = 7 ∨ st = 9)) ∧ st ≤ 9 := by
    simp only [List.mem_cons, List.not_mem_nil, or_false] at hd2
    rcases hd2 with rfl | rfl | rfl | rfl | rfl
    all_goals exact ⟨_, rfl, ⟨by decide, by decide⟩, by decide⟩
  simp
  refine draw_wp hr2 (by omega) (by omega) fun lead r3 c1 c2 hr3 => ?_
  simp
  refine draw_wp hr3 (by omega) (by omega) fun at_ r4 e1 e2 hr4 => ?_
  obtain ⟨w, hw, w1, w2⟩ : ∃ w : Nat, 2 + k1 = w ∧ 2 ≤ w ∧ w ≤ 7 := ⟨(2 + k1).toNat, by omega, by omega, by omega⟩
  obtain ⟨ai, rfl⟩ := Int.eq_ofNat_of_zero_le e1
  have gw : rngOk (w : Int) = true := decide_eq_true (by omega)
  rw [hw] at e2
  simp [hw, gw]
  refine wp_cloopJ (fun i acc ρ => ∃ (cs : List Nat) (r' : List D), acc = cs.map (fun c => D.str ⟨#[c]⟩) ∧ cs.length = i ∧ (∀ c ∈ cs, lowc c = true) ∧ RngOk r' ∧ ρ = [.ow true (.ls r'), .im (.int many), .im (.int (w : Int)), .im (.int st), .im (.int lead), .im (.int (ai : Int)), .no, .no, .no, .no, .no]) (by simp; omega) ⟨[], r4, rfl, rfl, by simp, hr4, rfl⟩ ?_ ?_ ?_
  · rintro i acc ρ ⟨cs, r', rfl, z2, z3, z4, rfl⟩
    exact ⟨rfl, by simp; omega⟩
  · rintro i d acc ρ J hd ⟨cs, r', rfl, z2, z3, z4, rfl⟩ hJ
    simp [letters_ok]
    refine pick_abc z4 fun c rr hc hrr => ?_
    simp [rest]
    refine hJ _ _ ⟨cs ++ [c], rr, by simp, by simp [z2], fun x hx => ?_, hrr, rfl⟩
    rcases List.mem_append.mp hx with z | z
    · exact z3 x z
    · rw [List.mem_singleton.mp z]
      exact hc
  · rintro acc ρ ⟨cs, r5, rfl, lcs, low, hr5, rfl⟩
    have lcs : cs.length = w := by simpa using lcs
    obtain ⟨m, hm⟩ := Int.eq_ofNat_of_zero_le h0
    subst hm
    have gm : rngOk (m : Int) = true := decide_eq_true (by omega)
    simp [join_tx (cs := cs) (by omega), gm]
    let nmA : Nat → List Nat := fun j => cs.take ai ++ [(97 + (lead + st * (j : Int)).fmod 26).toNat] ++ cs.drop (ai + 1)
    refine wp_floopJ (fun i ρ => ∃ (l : List Str) (y7 y9 : SV), l = (List.range i).map (fun j => tx (nmA j)) ∧ Imm y7 ∧ Imm y9 ∧ l.length = i ∧ (∀ x ∈ l, (∀ c ∈ x.cps.toList, lowc c = true) ∧ x.length = w) ∧ ρ = [.ow true (.ls r5), .im (.int (m : Int)), .im (.int (w : Int)), .im (.int st), .im (.int lead), .im (.int (ai : Int)), .im (.str (tx cs)), y7, .ow false (.ls (l.map D.str)), y9, .no])
      ⟨[], .no, .no, rfl, .inl rfl, .inl rfl, rfl, by simp, rfl⟩ ?_ ?_
    · rintro i d ρ J hd ⟨l, y7, y9, el, i7, i9, ll, lo, rfl⟩ hJ
      have h7 := i7.nio
      have h9 := i9.nio
      rw [List.getElem?_map] at hd
      obtain ⟨i', hi', rfl⟩ := Option.map_eq_some_iff.mp hd
      have lt : i < m := by
        have := (List.getElem?_eq_some_iff.mp hi').1
        simpa using this
      have ei : i' = i := by
        rw [List.getElem?_range lt] at hi'
        exact (Option.some.inj hi').symm
      subst ei
      have f0 : 0 ≤ (lead + st * (i' : Int)).fmod 26 ∧ (lead + st * (i' : Int)).fmod 26 < 26 := ⟨Int.fmod_nonneg_of_pos _ (by decide), Int.fmod_lt_of_pos _ (by decide)⟩
      have sm1 : Sml st := .of (k := 64) (by omega) (by decide) (by decide)
      have sm2 : Sml (i' : Int) := .of (k := 64) (by omega) (by decide) (by decide)
      have low2 := low_let f0.1 f0.2
      obtain ⟨n1, n2⟩ := name_of (k := ai) low (by omega) low2
      have c1 := cut_to (l := cs) (k := ai) (by omega)
      have c2 := cut_from (l := cs) (k := ai + 1) (by omega)
      rw [show ((ai + 1 : Nat) : Int) = (ai : Int) + 1 from by omega] at c2
      have la := abc_at f0.1 f0.2
      obtain ⟨g, hg⟩ : ∃ g, (lead + st * (i' : Int)).fmod 26 = g := ⟨_, rfl⟩
      rw [hg] at f0 low2 n1 n2 la
      have a1 : addD (.str (tx (cs.take ai))) (.str (tx [(97 + g).toNat])) = some (.im (.str (tx (cs.take ai ++ [(97 + g).toNat])))) := by
        rw [addD_strA (by rw [tx_len, tx_len]; simp; omega), tx_app]
      have a2 : addD (.str (tx (cs.take ai ++ [(97 + g).toNat]))) (.str (tx (cs.drop (ai + 1)))) = some (.im (.str (tx (cs.take ai ++ [(97 + g).toNat] ++ cs.drop (ai + 1))))) := by
        rw [addD_strA (by rw [tx_len, tx_len]; simp; omega), tx_app]
      have la : ixD (.str abc) (.int g) = some (.im (.str (tx [(97 + g).toNat]))) := la
      have slA := fun lo hi => sl_str (x := tx cs) (lo := lo) (hi := hi) (by rw [tx_len]; omega)
      simp [h7, h9, sm1, sm2, hg, slA, c1, c2, letters_ok, la, a1, a2, app_ok, ll, show i' < 1000000 from by omega]
      have hh : ∀ x ∈ l ++ [tx (cs.take ai ++ [(97 + g).toNat] ++ cs.drop (ai + 1))], (∀ c ∈ x.cps.toList, lowc c = true) ∧ x.length = w := fun x hx => by
        rcases List.mem_append.mp hx with z | z
        · exact lo x z
        · rw [List.mem_singleton.mp z]
          exact ⟨n1, by rw [tx_len, n2, lcs]⟩
      have el2 : l ++ [tx (cs.take ai ++ [(97 + g).toNat] ++ cs.drop (ai + 1))] = (List.range (i' + 1)).map (fun j => tx (nmA j)) := by
        rw [List.range_succ, List.map_append, ← el, ← hg]
        rfl
      exact hJ _ ⟨l ++ [tx (cs.take ai ++ [(97 + g).toNat] ++ cs.drop (ai + 1))], .im (.int (i' : Int)), .im (.int g), el2, imm_im, imm_im, by simp [ll], hh, by simp⟩
    · rintro ρ ⟨l, y7, y9, el, i7, i9, ll, lo, rfl⟩
      rw [List.length_map, List.length_range] at el
      have injA : ∀ j j', j < m → j' < m → nmA j = nmA j' → j = j' := fun j j' hj hj' e => by
        have e : cs.take ai ++ [(97 + (lead + st * (j : Int)).fmod 26).toNat] ++ cs.drop (ai + 1) = cs.take ai ++ [(97 + (lead + st * (j' : Int)).fmod 26).toNat] ++ cs.drop (ai + 1) := e
        have e := List.append_cancel_left (List.append_cancel_right e)
        have e : (97 + (lead + st * (j : Int)).fmod 26).toNat = (97 + (lead + st * (j' : Int)).fmod 26).toNat := by simpa using e
        rw [Int.fmod_eq_emod_of_nonneg _ (by decide), Int.fmod_eq_emod_of_nonneg _ (by decide)] at e
        rcases st5 with rfl | rfl | rfl | rfl | rfl <;> omega
      have ndl : ∀ g : List Nat → List Nat, (∀ x y, g x = g y → x = y) → ((List.range m).map fun j => tx (g (nmA j))).Nodup := fun g hg => by
        refine List.nodup_iff_pairwise_ne.mpr ?_
        rw [List.pairwise_map]
        refine (List.nodup_iff_pairwise_ne.mp List.nodup_range).imp_of_mem fun {a b} ha hb hab e => hab ?_
        exact injA a b (List.mem_range.mp ha) (List.mem_range.mp hb) (hg _ _ (tx_inj e))
      have nd1 : l.Nodup := by
        rw [el]
        exact ndl (fun x => x) fun _ _ h => h
      have q1 : Str.ofString "q" = tx [113] := by decide +kernel
      have nd2 : (l.map fun (x : Str) => x ++ Str.ofString "q").Nodup := by
        rw [el, List.map_map, q1]
        have z := ndl (fun x => x ++ [113]) fun _ _ h => List.append_cancel_right h
        have e : ((List.range m).map ((fun x => x ++ tx [113]) ∘ fun j => tx (nmA j))) = (List.range m).map fun j => tx (nmA j ++ [113]) := List.map_congr_left fun j _ => tx_app
        rw [e]
        exact z
      have ll : l.length = m := by simpa using ll
      have ok : ∀ y ∈ l, y.cps.all (· < 0x110000) = true := fun y hy => low_okc (lo y hy).1
      have i1 := in_names (x := "abs") (sok_lit _) ok
      have i2 := in_names (x := "max") (sok_lit _) ok
      have i3 := in_names (x := "min") (sok_lit _) ok
      have lq : (Str.ofString "q").length = 1 := by decide +kernel
      have fin : WP (cLoop [10] (tgName 10) tYesD (dOp2 addD (dVar 10) (dC (.str "q"))) (l.map D.str) [] [.ow true (.ls r5), .im (.int (m : Int)), .im (.int (w : Int)), .im (.int st), .im (.int lead), .im (.int (ai : Int)), .im (.str (tx cs)), y7, .im (.lst (l.map D.str)), y9, .no])
          (fun ys ρ => ys = (l.map fun (x : Str) => D.str (x ++ Str.ofString "q")) ∧ ρ = [.ow true (.ls r5), .im (.int (m : Int)), .im (.int (w : Int)), .im (.int st), .im (.int lead), .im (.int (ai : Int)), .im (.str (tx cs)), y7, .im (.lst (l.map D.str)), y9, .no]) noX := by
        refine wp_cmapG D.str (fun (x : Str) => D.str (x ++ Str.ofString "q")) l rfl rfl (by omega) (fun x hx => ?_) ⟨rfl, rfl⟩
        have a := addD_strA (a := x) (b := "q") (by rw [lq, (lo x hx).2]; omega)
        simp [a, rest]
      have all : ∀ x ∈ l.map fun (x : Str) => x ++ Str.ofString "q", NmOk x := fun x hx => by
        obtain ⟨y, hy, rfl⟩ := List.mem_map.mp hx
        obtain ⟨y1, y2⟩ := lo y hy
        have le : (y ++ Str.ofString "q").length = y.length + 1 := by rw [PySem.Str.length_append, lq]
        refine ⟨fun c hc => ?_, by omega, by omega, ends_q⟩
        have hc : c ∈ (y.cps ++ #[113]).toList := hc
        rw [Array.toList_append, List.mem_append] at hc
        rcases hc with hc | hc
        · exact y1 c hc
        · have : c = 113 := by simpa using hc
          subst this
          decide
      have em : (l.map fun (x : Str) => D.str (x ++ Str.ofString "q")) = (l.map fun (x : Str) => x ++ Str.ofString "q").map D.str := by simp
      have kk := k (l.map fun (x : Str) => x ++ Str.ofString "q") r5 (by simp [ll]) all nd2 hr5
      rw [← em] at kk
      by_cases b1 : Str.ofString "abs" ∈ l
      · simp [i1, b1]
        refine Wp.mono fin (fun ys ρ ⟨h1, h2⟩ => ?_) (fun _ _ z => z.elim)
        subst h1 h2
        simp
        exact kk
      · by_cases b2 : Str.ofString "max" ∈ l
        · simp [i1, b1, i2, b2]
          refine Wp.mono fin (fun ys ρ ⟨h1, h2⟩ => ?_) (fun _ _ z => z.elim)
          subst h1 h2
          simp
          exact kk
        · by_cases b3 : Str.ofString "min" ∈ l
          · simp [i1, b1, i2, b2, i3, b3]
            refine Wp.mono fin (fun ys ρ ⟨h1, h2⟩ => ?_) (fun _ _ z => z.elim)
            subst h1 h2
            simp
            exact kk
          · simp [i1, b1, i2, b2, i3, b3]
            refine k l r5 (by omega) (fun x hx => ?_) nd1 hr5
            obtain ⟨x1, x2⟩ := lo x hx
            exact ⟨x1, by omega, by omega, fun z => b1 (z ▸ hx), fun z => b2 (z ▸ hx), fun z => b3 (z ▸ hx)⟩
end Kx

/- part -/
set_option Elab.async false
set_option linter.all false
set_option maxRecDepth 100000
set_option maxHeartbeats 8000000
namespace Kx
open PySem DL PyProof.Rows
inductive Bo where
  | add | sub | mx | mn
def boS : Bo → Str
  | .add => "add"
  | .sub => "subtract"
  | .mx => "max"
  | .mn => "min"
inductive Ex where
  | x | num (q : Rat) | ab (e : Ex) | mul (q : Rat) (e : Ex) | call (f : Str) (e : Ex) | bin (o : Bo) (a b : Ex)
def exD : Ex → D
  | .x => .tup [.str "x"]
  | .num q => .tup [.str "number", qD q]
  | .ab e => .tup [.str "abs", exD e]
  | .mul q e => .tup [.str "multiple", qD q, exD e]
  | .call f e => .tup [.str "call", .str f, exD e]
  | .bin o a b => .tup [.str (boS o), exD a, exD b]
def exH : Ex → Nat
  | .x => 1
  | .num _ => 1
  | .ab e => exH e + 1
  | .mul _ e => exH e + 1
  | .call _ e => exH e + 1
  | .bin _ a b => max (exH a) (exH b) + 1
def exC : Ex → List Str
  | .x => []
  | .num _ => []
  | .ab e => exC e
  | .mul _ e => exC e
  | .call f e => f :: exC e
  | .bin _ a b => exC a ++ exC b
def F6 (q : Rat) : Prop := q.num.natAbs < 1000000 ∧ q.den < 1000000
def ExOk (P : Str → Prop) : Ex → Prop
  | .x => True
  | .num q => F6 q
  | .ab e => ExOk P e
  | .mul q e => F6 q ∧ ExOk P e
  | .call f e => P f ∧ ExOk P e
  | .bin _ a b => ExOk P a ∧ ExOk P b
theorem exH_pos : ∀ e : Ex, 1 ≤ exH e
  | .x => Nat.le_refl _
  | .num _ => Nat.le_refl _
  | .ab e => by unfold exH; omega
  | .mul _ e => by unfold exH; omega
  | .call _ e => by unfold exH; omega
  | .bin _ a b => by unfold exH; omega
theorem ExOk.mono {P R : Str → Prop} (i : ∀ x, P x → R x) : ∀ {e : Ex}, ExOk P e → ExOk R e
  | .x, h => h
  | .num _, h => h
  | .ab e, h => ExOk.mono i (e := e) h
  | .mul _ e, h => ⟨h.1, ExOk.mono i (e := e) h.2⟩
  | .call g e, h => ⟨i _ h.1, ExOk.mono i (e := e) h.2⟩
  | .bin _ a b, h => ⟨ExOk.mono i (e := a) h.1, ExOk.mono i (e := b) h.2⟩
@[simp] theorem unl_ex {e : Ex} : unl (exD e) = exD e := by
  cases e <;> rfl
theorem low_rat {a b : Int} (hb : 0 < b) (hz : b < 1000000) : m__law_lowest [.im (.int a), .im (.int b)] = .ok (.im (qD ((a : Rat) / (b : Rat)))) [.im (.int a), .im (.int b)] := by
  rw [← frD_rat hb]
  exact low_ok (by omega) (Nat.lt_trans (show b.natAbs < 2 ^ 20 by omega) (Nat.pow_lt_pow_right (by decide) (by decide)))
theorem rat_six {a b : Int} (hb : 0 < b) (hz : b < 1000000) (ha : a.natAbs < 1000000) : F6 ((a : Rat) / (b : Rat)) := by
  obtain ⟨n, d, e, d0, d1, _, n1⟩ := fr_parts (a := a) hb
  rw [frD_rat hb] at e
  unfold qD at e
  simp only [D.tup.injEq, List.cons.injEq, D.int.injEq, and_true] at e
  obtain ⟨e1, e2⟩ := e
  exact ⟨by rw [e1]; omega, by omega⟩
section
variable {r : List D} {Q : RV → SE → Prop} {E : Exc → SE → Prop}
theorem tfrac_wp (hr : RngOk r) (k : ∀ q r', F6 q → RngOk r' → Q (.im (qD q)) [.ow true (.ls r')]) : WP (m__law_text_fraction [.ow true (.ls r)]) Q E := by
  refine wp_fn ?_
  simp [b__law_text_fraction]
  refine draw_wp hr (by omega) (by omega) fun k1 r1 a1 a2 hr1 => ?_
  simp
  refine pick_wp hr1 (by simp) (by simp) fun d r2 hd hr2 => ?_
  obtain ⟨b, rfl, b1, b2⟩ : ∃ b : Int, d = .int b ∧ 0 < b ∧ b < 1000000 := by
    simp only [List.mem_cons, List.not_mem_nil, or_false] at hd
    rcases hd with rfl | rfl | rfl | rfl | rfl | rfl | rfl
    all_goals exact ⟨_, rfl, by omega, by omega⟩
  simp
  refine pick_wp hr2 (by simp) (by simp) fun d r3 hd hr3 => ?_
  obtain ⟨n, rfl, n1, n2⟩ : ∃ n : Int, d = .int n ∧ 4 ≤ n ∧ n ≤ 499999 := by
    simp only [List.mem_cons, List.not_mem_nil, or_false] at hd
    rcases hd with rfl | rfl | rfl
    all_goals exact ⟨_, rfl, by omega, by omega⟩
  have sn : Sml n := .of (k := 64) (by omega) (by decide) (by decide)
  have s2 : Sml 2 := by unfold Sml; decide +kernel
  simp [sn, s2]
  refine draw_wp hr3 (by omega) (by omega) fun t r4 t1 t2 hr4 => ?_
  simp [low_rat (a := t - 4) b1 b2]
  exact k _ r4 (by simpa using rat_six (a := t - 4) b1 b2 (by omega)) hr4
theorem ne_nilS {ns : List Str} (hn : ∀ x ∈ ns, x.cps.all (· < 0x110000) = true) : neD (.lst (ns.map D.str)) (.lst []) = some (.im (.bl (decide (ns ≠ [])))) := by
  have p : ∀ (l : List Str), (∀ y ∈ l, y.cps.all (· < 0x110000) = true) → pgs 1 (l.map D.str) = true := fun l h => by
    induction l with
    | nil => unfold pgs; rfl
    | cons y l ih =>
      rw [List.map_cons]
      unfold pgs
      rw [ih fun z hz => h z (List.mem_cons_of_mem _ hz)]
      unfold pg
      rw [h y List.mem_cons_self]
      rfl
  have o1 : okc (.lst (ns.map D.str)) = true := okc_of (n := 2) (by unfold pg; exact p ns hn) (by decide)
  have o2 : okc (.lst []) = true := by rfl
  unfold neD
  rw [if_pos (by rw [o1, o2]; rfl)]
  cases ns with
  | nil => rfl
  | cons x r => rfl
theorem expr_wp {ns : List Str} (hn : ∀ x ∈ ns, x.cps.all (· < 0x110000) = true) (hl : ns.length ≤ 1000) : ∀ (n : Nat) {r : List D} {k : Int} {Q : RV → SE → Prop} {E : Exc → SE → Prop}, RngOk r → 1 ≤ k → k ≤ n → k ≤ 1000 →
    (∀ e r', ExOk (· ∈ ns) e → (exH e : Int) ≤ k → RngOk r' → Q (.im (exD e)) [.ow true (.ls r'), .im (.lst (ns.map D.str)), .im (.int k)]) → WP (m__law_expression n [.ow true (.ls r), .im (.lst (ns.map D.str)), .im (.int k)]) Q E
  | 0, r, k, Q, E, hr, h1, h2, _, _ => by omega
  | n + 1, r, k, Q, E, hr, h1, h2, h3, K => by
    have ih : ∀ {r' : List D} {Q' : RV → SE → Prop} {E' : Exc → SE → Prop}, RngOk r' → 2 ≤ k → (∀ e r', ExOk (· ∈ ns) e → (exH e : Int) + 1 ≤ k → RngOk r' → Q' (.im (exD e)) [.ow true (.ls r'), .im (.lst (ns.map D.str)), .im (.int (k - 1))]) → WP (m__law_expression n [.ow true (.ls r'), .im (.lst (ns.map D.str)), .im (.int (k - 1))]) Q' E' := fun hr' g K' =>
      expr_wp hn hl n hr' (by omega) (by omega) (by omega) fun e r' a b c => K' e r' a (by omega) c
    have es : m__law_expression (n + 1) = mFn n__law_expression.length (b__law_expression (m__law_expression n)) := rfl
    rw [es]
    refine wp_fn ?_
    simp [b__law_expression]
    refine draw_wp hr (by omega) (by omega) fun w r1 w1 w2 hr1 => ?_
    simp
    by_cases c0 : k < 2
    · simp [c0]
      refine tfrac_wp hr1 fun q r2 hq hr2 => ?_
      simp
      refine pick_wp hr2 (by simp) (by simp) fun d r3 hd hr3 => ?_
      simp
      have h2' : d = exD .x ∨ d = exD (.num q) := by
        simp only [List.mem_cons, List.not_mem_nil, or_false] at hd
        rcases hd with rfl | rfl | rfl
        · exact .inl rfl
        · exact .inl rfl
        · exact .inr rfl
      rcases h2' with rfl | rfl
      · exact K .x r3 trivial (by unfold exH; omega) hr3
      · exact K (.num q) r3 hq (by unfold exH; omega) hr3
    by_cases c1 : w = 0
    · simp [c0, c1]
      refine tfrac_wp hr1 fun q r2 hq hr2 => ?_
      simp
      refine pick_wp hr2 (by simp) (by simp) fun d r3 hd hr3 => ?_
      simp
      have h2' : d = exD .x ∨ d = exD (.num q) := by
        simp only [List.mem_cons, List.not_mem_nil, or_false] at hd
        rcases hd with rfl | rfl | rfl
        · exact .inl rfl
        · exact .inl rfl
        · exact .inr rfl
      rcases h2' with rfl | rfl
      · exact K .x r3 trivial (by unfold exH; omega) hr3
      · exact K (.num q) r3 hq (by unfold exH; omega) hr3
    by_cases c2 : w = 1
    · simp [c0, c2]
      refine ih hr1 (by omega) fun e r2 a b c => ?_
      simp
      exact K (.ab e) r2 a b c
    by_cases c3 : w = 2
    · simp [c0, c3]
      refine tfrac_wp hr1 fun q r2 hq hr2 => ?_
      simp
      refine ih hr2 (by omega) fun e r3 a b c => ?_
      simp
      exact K (.mul q e) r3 ⟨hq, a⟩ b c
    by_cases c4 : w = 3
    · simp [c0, c4]
      refine tfrac_wp hr1 fun q r2 hq hr2 => ?_
      simp
      refine ih hr2 (by omega) fun e r3 a b c => ?_
      simp
      exact K (.mul q e) r3 ⟨hq, a⟩ b c
    by_cases c5 : 7 < w ∧ ns ≠ []
    · simp [c0, c1, c2, c3, c4, c5.1, ne_nilS hn, c5.2]
      refine pick_wp hr1 (by simpa using List.length_pos_iff.mpr c5.2) (by simp; omega) fun d r2 hd hr2 => ?_
      obtain ⟨f, hf, rfl⟩ := List.mem_map.mp hd
      simp
      refine ih hr2 (by omega) fun e r3 a b c => ?_
      simp
      exact K (.call f e) r3 ⟨hf, a⟩ b c
    · have tail : ∀ r1, RngOk r1 → WP (m__law_pick [.ow true (.ls r1), .im (.lst [.str "add", .str "subtract", .str "max", .str "min"])]) (fun x ρ => ∃ o r', x = .im (.str (boS o)) ∧ RngOk r' ∧ ρ = [.ow true (.ls r'), .im (.lst [.str "add", .str "subtract", .str "max", .str "min"])]) noX := fun r1 hr1 =>
        pick_wp hr1 (by simp) (by simp) fun d r' hd hr' => by
          simp only [List.mem_cons, List.not_mem_nil, or_false] at hd
          rcases hd with rfl | rfl | rfl | rfl
          · exact ⟨.add, r', rfl, hr', rfl⟩
          · exact ⟨.sub, r', rfl, hr', rfl⟩
          · exact ⟨.mx, r', rfl, hr', rfl⟩
          · exact ⟨.mn, r', rfl, hr', rfl⟩
      have sh : ∀ (o : Bo) (a b : Ex), exH a + 1 ≤ k → exH b + 1 ≤ k → ((exH (.bin o a b) : Nat) : Int) ≤ k := fun o a b h1 h2 => by
        show ((max (exH a) (exH b) + 1 : Nat) : Int) ≤ k
        omega
      by_cases c6 : 7 < w
      · have e0 : ns = [] := Decidable.byContradiction fun z => c5 ⟨c6, z⟩
        subst e0
        have ne := ne_nilS (ns := []) hn
        simp at ne
        simp [c0, c1, c2, c3, c4, c6, ne]
        refine Wp.mono (tail r1 hr1) ?_ (fun _ _ z => z.elim)
        rintro _ _ ⟨o, r2, rfl, hr2, rfl⟩
        simp
        refine ih hr2 (by omega) fun e r3 a b c => ?_
        simp
        refine ih c (by omega) fun e' r4 a' b' c' => ?_
        simp
        exact K (.bin o e e') r4 ⟨a, a'⟩ (sh o e e' b b') c'
      · simp [c0, c1, c2, c3, c4, c6]
        refine Wp.mono (tail r1 hr1) ?_ (fun _ _ z => z.elim)
        rintro _ _ ⟨o, r2, rfl, hr2, rfl⟩
        simp
        refine ih hr2 (by omega) fun e r3 a b c => ?_
        simp
        refine ih c (by omega) fun e' r4 a' b' c' => ?_
        simp
        exact K (.bin o e e') r4 ⟨a, a'⟩ (sh o e e' b b') c'
end
end Kx

/- part -/
set_option Elab.async false
set_option linter.all false
set_option maxRecDepth 100000
set_option maxHeartbeats 8000000
namespace Kx
open PySem DL PyProof.Rows
theorem wp_whileJ {c : DM Bool} {b : DM Fl} {ρ : SE} {Q : Fl → SE → Prop} {E : Exc → SE → Prop} (I : Nat → SE → Prop) {n : Nat} (h0 : I n ρ) (hs : ∀ n ρ (J : SE → Prop), I n ρ → (∀ k ρ, k < n → I k ρ → J ρ) → WP (c ρ) (fun k ρ1 => if k = true then WP (b ρ1) (loopQ Q J) E else Q .nx ρ1) E) : WP (sWhile c b ρ) Q E :=
  wp_while I h0 fun n ρ h => hs n ρ _ h fun k _ hk hI => ⟨k, hk, hI⟩
theorem keyS : KeyF D.str := ⟨fun a b h => by
  have e : ∀ s : Str, nk (.str s) = .text s := fun _ => rfl
  rw [e, e] at h
  injection h, fun _ => rfl, .inl fun _ => rfl⟩
inductive Sc (α : Type) where
  | ok (a : α) (p : Nat)
  | no (p : Nat)
def Sc.thn {α β : Type} : Sc α → (α → Nat → Sc β) → Sc β
  | .ok a p, f => f a p
  | .no p, _ => .no p
def dgt (c : Nat) : Bool := decide (48 ≤ c) && decide (c ≤ 57)
def isD : Option Nat → Bool
  | some c => dgt c
  | none => false
def isL : Option Nat → Bool
  | some c => lowc c
  | none => false
def exS (cs : List Nat) : Nat → List Nat → Sc Unit
  | p, [] => .ok () p
  | p, c :: w => if cs[p]? = some c then exS cs (p + 1) w else .no p
def slc (cs : List Nat) (a b : Nat) : List Nat := (cs.drop a).take (b - a)
def nmE (cs : List Nat) (p : Nat) : Nat → Nat → Nat
  | 0, e => e
  | k + 1, e => if isD cs[e]? = true ∧ slc cs p e ≠ [48] then nmE cs p k (e + 1) else e
def nmS (cs : List Nat) (p : Nat) : Sc Unit := if nmE cs p 6 p = p ∨ isD cs[nmE cs p 6 p]? = true then .no (nmE cs p 6 p) else .ok () (nmE cs p 6 p)
def txV : List Nat → Int
  | 45 :: r => -((NumText.digitsVal r : Nat) : Int)
  | l => ((NumText.digitsVal l : Nat) : Int)
def frT (cs : List Nat) (p e : Nat) : Sc (Int × Int) := if cs[e]? ≠ some 47 then .ok (txV (slc cs p e), 1) e else
  (nmS cs (e + 1)).thn fun _ l => if txV (slc cs (e + 1) l) < 2 ∨ Nat.gcd (txV (slc cs p e)).natAbs (txV (slc cs (e + 1) l)).natAbs ≠ 1 then .no (e + 1) else .ok (txV (slc cs p e), txV (slc cs (e + 1) l)) l
def frS (cs : List Nat) (p : Nat) : Sc (Int × Int) :=
  if cs[p]? = some 45 then (if cs[p + 1]? = some 48 then .no (p + 1) else (nmS cs (p + 1)).thn fun _ e => frT cs p e)
  else (nmS cs p).thn fun _ e => frT cs p e
def wdE (cs : List Nat) (p : Nat) : Nat := p + ((cs.drop p).takeWhile lowc).length
abbrev wds3 : List Str := ["max", "min", "abs"]
def isNm (x : Str) : Bool := decide (2 ≤ x.length) && decide (x.length ≤ 8) && !(wds3.contains x) && x.cps.toList.all lowc
def opS (f : Nat → Sc D) (cs : List Nat) (q : Nat) (d1 : D) (o : Str) : Sc D :=
  (exS cs (q + 1) [32]).thn fun _ q3 => (f q3).thn fun d2 q4 => (exS cs q4 [41]).thn fun _ q5 => .ok (.tup [.str o, d1, d2]) q5
def pairS (f : Nat → Sc D) (cs : List Nat) (p : Nat) : Sc D :=
  (f p).thn fun d1 q => (exS cs q [32]).thn fun _ q2 => if cs[q2]? = some 43 then opS f cs q2 d1 "add" else if cs[q2]? = some 45 then opS f cs q2 d1 "subtract" else .no q2
def argS (f : Nat → Sc D) (cs : List Nat) (x : Str) (e : Nat) : Sc D :=
  (exS cs e [40]).thn fun _ q => (f q).thn fun d1 q1 =>
    if x = "max" ∨ x = "min" then (exS cs q1 [44, 32]).thn fun _ q2 => (f q2).thn fun d2 q3 => (exS cs q3 [41]).thn fun _ q4 => .ok (.tup [.str x, d1, d2]) q4
    else (exS cs q1 [41]).thn fun _ q2 => .ok (if x = "abs" then .tup [.str "abs", d1] else .tup [.str "call", .str x, d1]) q2
def wordS (f : Nat → Sc D) (cs : List Nat) (p : Nat) : Sc D :=
  if tx (slc cs p (wdE cs p)) = "x" then .ok (.tup [.str "x"]) (wdE cs p)
  else if wds3.contains (tx (slc cs p (wdE cs p))) = false ∧ isNm (tx (slc cs p (wdE cs p))) = false then .no p
  else argS f cs (tx (slc cs p (wdE cs p))) (wdE cs p)
def numD (v : Int × Int) : D := .tup [.int v.1, .int v.2]
def numS (f : Nat → Sc D) (cs : List Nat) (p : Nat) : Sc D :=
  (frS cs p).thn fun v q => if cs[q]? ≠ some 42 then .ok (.tup [.str "number", numD v]) q else (f (q + 1)).thn fun d r => .ok (.tup [.str "multiple", numD v, d]) r
def prs (cs : List Nat) : Nat → Nat → Sc D
  | 0, p => .no p
  | k + 1, p => match cs[p]? with
    | none => .no p
    | some c => if c = 40 then pairS (prs cs k) cs (p + 1) else if lowc c = true then wordS (prs cs k) cs p else if dgt c = false ∧ c ≠ 45 then .no p else numS (prs cs k) cs p
def prsA (cs : List Nat) : Sc D := (prs cs 12 0).thn fun d p => if p < cs.length then .no p else .ok d p
def chS : Option Nat → Str
  | some c => ⟨#[c]⟩
  | none => ""
structure OkO (o : Option Nat) : Prop where
  lt : ∀ c, o = some c → c < 0x110000
theorem OkO.tx {o : Option Nat} (h : OkO o) : (chS o).cps.all (· < 0x110000) = true := by
  cases o with
  | none => exact lit_ok _
  | some c =>
    have := h.lt c rfl
    show (#[c] : Array Nat).all (· < 0x110000) = true
    simpa using this
theorem chS_inj {o o' : Option Nat} (h : chS o = chS o') : o = o' := by
  have l0 : ("" : Str).cps.toList = [] := by decide +kernel
  have h := congrArg (fun x : Str => x.cps.toList) h
  cases o with
  | none =>
    cases o' with
    | none => rfl
    | some c =>
      have h : ("" : Str).cps.toList = [c] := h
      rw [l0] at h
      cases h
  | some c =>
    cases o' with
    | none =>
      have h : [c] = ("" : Str).cps.toList := h
      rw [l0] at h
      cases h
    | some c' =>
      have h : [c] = [c'] := h
      cases h
      rfl
theorem eq_ch {o o' : Option Nat} (h : OkO o) (h' : OkO o') : eqD (.str (chS o)) (.str (chS o')) = some (.im (.bl (decide (o = o')))) := by
  rw [eqD_strA (sok_of h.tx) (sok_of h'.tx)]
  congr 4
  by_cases c : o = o'
  · subst c
    rw [decide_eq_true rfl, beq_self_eq_true]
  · rw [decide_eq_false c, beq_eq_false_iff_ne]
    exact fun z => c (chS_inj z)
theorem ne_ch {o o' : Option Nat} (h : OkO o) (h' : OkO o') : neD (.str (chS o)) (.str (chS o')) = some (.im (.bl (!decide (o = o')))) := by
  by_cases c : o = o'
  · subst c
    rw [decide_eq_true rfl]
    exact ne_self (n := 1) h.tx (by decide)
  · rw [decide_eq_false c]
    exact neD_ne (n := 1) h.tx h'.tx (by decide) fun z => c (chS_inj (D.str.inj z))
theorem okO_lit {c : Nat} (h : c < 0x110000) : OkO (some c) := ⟨fun _ e => by cases e; exact h⟩
theorem okO_none : OkO none := ⟨fun _ e => by cases e⟩
theorem lt_lp : ("(" : Str) = chS (some 40) := by decide +kernel
theorem lt_st : ("*" : Str) = chS (some 42) := by decide +kernel
theorem lt_pl : ("+" : Str) = chS (some 43) := by decide +kernel
theorem lt_mi : ("-" : Str) = chS (some 45) := by decide +kernel
theorem lt_sl : ("/" : Str) = chS (some 47) := by decide +kernel
theorem lt_ze : ("0" : Str) = chS (some 48) := by decide +kernel
section
variable {o : Option Nat} (h : OkO o)
include h
theorem eq_em : eqD (.str (chS o)) (.str "") = some (.im (.bl (decide (o = none)))) := eq_ch h okO_none
theorem ne_em : neD (.str (chS o)) (.str "") = some (.im (.bl (!decide (o = none)))) := ne_ch h okO_none
theorem eq_lp : eqD (.str (chS o)) (.str "(") = some (.im (.bl (decide (o = some 40)))) := by rw [lt_lp]; exact eq_ch h (okO_lit (by decide))
theorem ne_st : neD (.str (chS o)) (.str "*") = some (.im (.bl (!decide (o = some 42)))) := by rw [lt_st]; exact ne_ch h (okO_lit (by decide))
theorem ne_mi : neD (.str (chS o)) (.str "-") = some (.im (.bl (!decide (o = some 45)))) := by rw [lt_mi]; exact ne_ch h (okO_lit (by decide))
theorem eq_mi : eqD (.str (chS o)) (.str "-") = some (.im (.bl (decide (o = some 45)))) := by rw [lt_mi]; exact eq_ch h (okO_lit (by decide))
theorem ne_sl : neD (.str (chS o)) (.str "/") = some (.im (.bl (!decide (o = some 47)))) := by rw [lt_sl]; exact ne_ch h (okO_lit (by decide))
theorem eq_ze : eqD (.str (chS o)) (.str "0") = some (.im (.bl (decide (o = some 48)))) := by rw [lt_ze]; exact eq_ch h (okO_lit (by decide))
end
theorem in_one {neg : Bool} {c : Nat} {y : Str} : inD neg (.str (chS (some c))) (.str y) = some (.im (.bl (neg != decide (c ∈ y.cps.toList)))) := by
  show (if (1 : Nat) = 1 then some (RV.im (.bl (neg != decide (c ∈ y.cps.toList)))) else none) = _
  rw [if_pos rfl]
theorem mem_abc {c : Nat} : decide (c ∈ abc.cps.toList) = lowc c := by
  have e : abc.cps.toList = (List.range 26).map (97 + ·) := by decide +kernel
  rw [e]
  unfold lowc
  by_cases h1 : 97 ≤ c
  · by_cases h2 : c ≤ 122
    · rw [decide_eq_true h1, decide_eq_true h2]
      exact decide_eq_true (List.mem_map.mpr ⟨c - 97, List.mem_range.mpr (by omega), by omega⟩)
    · rw [decide_eq_false h2, Bool.and_false]
      refine decide_eq_false fun z => ?_
      obtain ⟨k, hk, e⟩ := List.mem_map.mp z
      have := List.mem_range.mp hk
      omega
  · rw [decide_eq_false h1, Bool.false_and]
    refine decide_eq_false fun z => ?_
    obtain ⟨k, hk, e⟩ := List.mem_map.mp z
    omega
theorem mem_dec {c : Nat} : decide (c ∈ ("0123456789" : Str).cps.toList) = dgt c := by
  have e : ("0123456789" : Str).cps.toList = (List.range 10).map (48 + ·) := by decide +kernel
  rw [e]
  unfold dgt
  by_cases h1 : 48 ≤ c
  · by_cases h2 : c ≤ 57
    · rw [decide_eq_true h1, decide_eq_true h2]
      exact decide_eq_true (List.mem_map.mpr ⟨c - 48, List.mem_range.mpr (by omega), by omega⟩)
    · rw [decide_eq_false h2, Bool.and_false]
      refine decide_eq_false fun z => ?_
      obtain ⟨k, hk, e⟩ := List.mem_map.mp z
      have := List.mem_range.mp hk
      omega
  · rw [decide_eq_false h1, Bool.false_and]
    refine decide_eq_false fun z => ?_
    obtain ⟨k, hk, e⟩ := List.mem_map.mp z
    omega
theorem in_let {c : Nat} : inD false (.str (chS (some c))) (.str "abcdefghijklmnopqrstuvwxyz") = some (.im (.bl (lowc c))) := by
  rw [in_one, Bool.false_bne]
  exact congrArg (fun z => some (RV.im (D.bl z))) mem_abc
theorem in_dec {neg : Bool} {c : Nat} : inD neg (.str (chS (some c))) (.str "0123456789") = some (.im (.bl (neg != dgt c))) := by
  rw [in_one]
  exact congrArg (fun z => some (RV.im (D.bl (neg != z)))) mem_dec
structure Cs (cs : List Nat) : Prop where
  len : cs.length ≤ 100000
  lt : ∀ c ∈ cs, c < 0x110000
theorem Cs.at {cs : List Nat} (h : Cs cs) (p : Nat) : OkO cs[p]? := ⟨fun _ e => h.lt _ (List.mem_of_getElem? e)⟩
theorem tx_ix {cs : List Nat} (h : Cs cs) {p : Nat} {c : Nat} (e : cs[p]? = some c) : ixD (.str (tx cs)) (.int (p : Int)) = some (.im (.str (chS (some c)))) := by
  show (if (tx cs).length ≤ 1000000 then (L2.atI cs (p : Int)).map fun c => RV.im (.str ⟨#[c]⟩) else none) = _
  rw [if_pos (by rw [tx_len]; have := h.len; omega), L2.atI_nat e]
  rfl
theorem cut_two {cs : List Nat} {a b : Nat} (hb : b ≤ cs.length) : L2.cutS (tx cs) (some (a : Int)) (some (b : Int)) = tx (slc cs a b) := by
  unfold L2.cutS slc
  rw [HT.sIx_nat, HT.sIx_nat, tx_len, tx_cps]
  show tx _ = tx _
  congr 1
  rw [Nat.min_eq_left hb]
  by_cases h : a ≤ cs.length
  · rw [Nat.min_eq_left h]
  · rw [Nat.min_eq_right (by omega), List.drop_of_length_le (Nat.le_refl _), List.drop_of_length_le (by omega)]
    simp
theorem sl_two {cs : List Nat} (h : Cs cs) {a b : Nat} (hb : b ≤ cs.length) : slD (.str (tx cs)) (some (a : Int)) (some (b : Int)) = some (.im (.str (tx (slc cs a b)))) := by
  rw [sl_str (by rw [tx_len]; have := h.len; omega), cut_two hb]
theorem len_tx {cs : List Nat} (h : Cs cs) : gLen [.str (tx cs)] = some (.im (.int (cs.length : Nat))) := by
  rw [gLen_str (by rw [tx_len]; have := h.len; omega), tx_len]
section
variable {cs : List Nat} (h : Cs cs)
include h
theorem char_ok (p : Nat) : m_char_at [.im (.str (tx cs)), .im (.int (p : Int))] = .ok (.im (.str (chS cs[p]?))) [.im (.str (tx cs)), .im (.int (p : Int))] := by
  refine Wp.eq (wp_fn ?_)
  have e1 := len_tx h
  cases e : cs[p]? with
  | none =>
    have le : cs.length ≤ p := List.getElem?_eq_none_iff.mp e
    have n : ¬ ((p : Int) < (cs.length : Int)) := by omega
    simp [b_char_at, e1, n, chS]
  | some c =>
    have lt := (List.getElem?_eq_some_iff.mp e).1
    have n : ((p : Int) < (cs.length : Int)) := by omega
    simp [b_char_at, e1, n, tx_ix h e]
end
abbrev exT (p : Nat) : Exc := ⟨"InvalidText", [("position", .int (p : Int)), ("tag", .str "InvalidText")]⟩
theorem dec_ok {o : Option Nat} (h : OkO o) : m_is_decimal [.im (.str (chS o))] = .ok (.im (.bl (isD o))) [.im (.str (chS o))] := by
  refine Wp.eq (wp_fn ?_)
  cases o with
  | none => simp [b_is_decimal, ne_em h, isD]
  | some c => simp [b_is_decimal, ne_em h, in_dec, isD]
theorem exS_cons {cs : List Nat} {p c : Nat} {w : List Nat} : exS cs p (c :: w) = if cs[p]? = some c then exS cs (p + 1) w else .no p := by rw [exS]
section
variable {cs : List Nat} (h : Cs cs)
include h
theorem exact_wp {w : List Nat} (p : Nat) {y : Str} (hy : y.cps.toList = w) (hw : ∀ c ∈ w, c < 0x110000) {Q : RV → SE → Prop} {E : Exc → SE → Prop}
    (K1 : ∀ q, exS cs p w = .ok () q → Q (.im (.int (q : Int))) [.im (.str (tx cs)), .im (.int (p : Int)), .im (.str y)]) (K2 : ∀ q, exS cs p w = .no q → E (exT q) [.im (.str (tx cs)), .im (.int (p : Int)), .im (.str y)]) : WP (m_scan_exact [.im (.str (tx cs)), .im (.int (p : Int)), .im (.str y)]) Q E := by
  refine wp_fn ?_
  simp [b_scan_exact, iSeqs, hy]
  refine wp_floopJ (fun i ρ => ∃ x3 : SV, Nio x3 ∧ exS cs (p + i) (w.drop i) = exS cs p w ∧ ρ = [.im (.str (tx cs)), .im (.int ((p + i : Nat) : Int)), .im (.str y), x3]) ⟨.no, nio_no, rfl, rfl⟩ ?_ ?_
  · rintro i d ρ J he ⟨x3, n3, hi, rfl⟩ hJ
    rw [List.getElem?_map] at he
    obtain ⟨c, hc, rfl⟩ := Option.map_eq_some_iff.mp he
    obtain ⟨lt, ec⟩ := List.getElem?_eq_some_iff.mp hc
    rw [List.drop_eq_getElem_cons lt, ec, exS_cons] at hi
    have okc := okO_lit (hw c (List.mem_of_getElem? hc))
    have ca := char_ok h (p + i)
    have ne : neD (.str (chS cs[p + i]?)) (.str ⟨#[c]⟩) = some (.im (.bl (!decide (cs[p + i]? = some c)))) := ne_ch (h.at _) okc
    generalize hpos : ((p + i : Nat) : Int) = pos at *
    simp [n3, ca, ne]
    by_cases cc : cs[p + i]? = some c
    · rw [if_pos cc] at hi
      have ai : addI (.int pos) (.int 1) = some (.im (.int (pos + 1))) := rfl
      simp [cc, ai]
      refine hJ _ ⟨.im (.str ⟨#[c]⟩), nio_im, hi, ?_⟩
      rw [← hpos]
      rfl
    · rw [if_neg cc] at hi
      simp [cc]
      rw [← hpos]
      exact K2 (p + i) hi.symm
  · rintro ρ ⟨x3, n3, hi, rfl⟩
    rw [List.length_map, List.drop_length] at hi
    rw [List.length_map]
    generalize hpos : ((p + w.length : Nat) : Int) = pos at *
    simp
    rw [← hpos]
    exact K1 _ hi.symm
end
end Kx

/- part -/
set_option Elab.async false
set_option linter.all false
set_option maxRecDepth 100000
set_option maxHeartbeats 8000000
namespace Kx
open PySem DL PyProof.Rows
theorem nmE_le {cs : List Nat} {p : Nat} : ∀ (k e : Nat), e ≤ nmE cs p k e ∧ nmE cs p k e ≤ e + k ∧ (e ≤ cs.length → nmE cs p k e ≤ cs.length)
  | 0, e => ⟨Nat.le_refl _, Nat.le_refl _, id⟩
  | k + 1, e => by
    unfold nmE
    split
    · rename_i c
      obtain ⟨h1, h2, h3⟩ := nmE_le (cs := cs) (p := p) k (e + 1)
      refine ⟨by omega, by omega, fun _ => h3 ?_⟩
      cases q : cs[e]? with
      | none => rw [q] at c; exact absurd c.1 (by decide)
      | some x => exact (List.getElem?_eq_some_iff.mp q).1
    · exact ⟨Nat.le_refl _, by omega, id⟩
theorem nmE_succ {cs : List Nat} {p k e : Nat} : nmE cs p (k + 1) e = if isD cs[e]? = true ∧ slc cs p e ≠ [48] then nmE cs p k (e + 1) else e := by rw [nmE]
theorem slc_lt {cs : List Nat} {a b : Nat} (h : Cs cs) : ∀ c ∈ slc cs a b, c < 0x110000 := fun c hc => h.lt c (List.mem_of_mem_drop (List.mem_of_mem_take hc))
theorem tx_all {l : List Nat} (h : ∀ c ∈ l, c < 0x110000) : (tx l).cps.all (· < 0x110000) = true := by
  rw [Array.all_eq_true']
  intro c hc
  exact decide_eq_true (h c (by simpa [tx] using hc))
theorem tx_zero : ("0" : Str) = tx [48] := by decide +kernel
section
variable {cs : List Nat} (h : Cs cs)
include h
theorem ne_slc0 {a b : Nat} : neD (.str (tx (slc cs a b))) (.str "0") = some (.im (.bl (decide (slc cs a b ≠ [48])))) := by
  rw [tx_zero]
  by_cases c : slc cs a b = [48]
  · rw [c, decide_eq_false (fun z => z rfl)]
    exact ne_self (n := 1) (tx_all fun c hc => by rw [List.mem_singleton.mp hc]; decide) (by decide)
  · rw [decide_eq_true c]
    exact neD_ne (n := 1) (tx_all (slc_lt h)) (tx_all fun c hc => by rw [List.mem_singleton.mp hc]; decide) (by decide) fun z => c (tx_inj (D.str.inj z))
theorem number_wp {p : Nat} (hp : p ≤ cs.length) {Q : RV → SE → Prop} {E : Exc → SE → Prop} (K1 : ∀ q, nmS cs p = .ok () q → Q (.im (.int (q : Int))) [.im (.str (tx cs)), .im (.int (p : Int))]) (K2 : ∀ q, nmS cs p = .no q → E (exT q) [.im (.str (tx cs)), .im (.int (p : Int))]) : WP (m_scan_number [.im (.str (tx cs)), .im (.int (p : Int))]) Q E := by
  refine wp_fn ?_
  simp [-u_sSeq, b_scan_number]
  refine wp_seqI (fun ρ => ρ = [.im (.str (tx cs)), .im (.int (p : Int)), .im (.int (p : Int))]) (by simp) ?_
  rintro ρ rfl
  refine wp_seqI (fun ρ => ρ = [.im (.str (tx cs)), .im (.int (p : Int)), .im (.int ((nmE cs p 6 p : Nat) : Int))]) ?_ ?_
  · refine wp_whileJ (fun n ρ => ∃ (e : Nat), p ≤ e ∧ e ≤ p + 6 ∧ n = p + 6 - e ∧ e ≤ cs.length ∧ nmE cs p (p + 6 - e) e = nmE cs p 6 p ∧ ρ = [.im (.str (tx cs)), .im (.int (p : Int)), .im (.int (e : Int))]) (n := 6) ⟨p, Nat.le_refl _, by omega, by omega, hp, by rw [show p + 6 - p = 6 by omega], rfl⟩ ?_
    rintro n ρ J ⟨e, h1, h2, rfl, h3, h4, rfl⟩ hJ
    have ca := char_ok h e
    have de := dec_ok (h.at e)
    have sl := sl_two h (a := p) h3
    have ns := ne_slc0 h (a := p) (b := e)
    have ai : addI (.int (e : Int)) (.int 1) = some (.im (.int ((e : Int) + 1))) := rfl
    by_cases c6 : e = p + 6
    · have lt : ¬ ((e : Int) - (p : Int) < 6) := by omega
      rw [show p + 6 - e = 0 by omega] at h4
      have h4 : e = nmE cs p 6 p := h4
      simp [lt, ← h4]
    · have lt : ((e : Int) - (p : Int) < 6) := by omega
      obtain ⟨k, hk⟩ : ∃ k, p + 6 - e = k + 1 := ⟨p + 5 - e, by omega⟩
      rw [hk, nmE_succ] at h4
      cases d : isD cs[e]? with
      | false =>
        rw [if_neg (by rw [d]; simp)] at h4
        simp [lt, ca, de, d, ← h4]
      | true =>
        by_cases c0 : slc cs p e = [48]
        · rw [if_neg (fun z => z.2 c0)] at h4
          rw [decide_eq_false (fun z => z c0)] at ns
          simp [lt, ca, de, d, sl, ns, ← h4]
        · rw [if_pos ⟨d, c0⟩] at h4
          rw [decide_eq_true c0] at ns
          have lte : e < cs.length := by
            cases q : cs[e]? with
            | none => rw [q] at d; cases d
            | some x => exact (List.getElem?_eq_some_iff.mp q).1
          generalize hN : nmE cs p 6 p = N at *
          simp [lt, ca, de, d, sl, ns, ai]
          exact hJ (p + 6 - (e + 1)) _ (by omega) ⟨e + 1, by omega, by omega, rfl, lte, by rw [show p + 6 - (e + 1) = k by omega]; exact h4, rfl⟩
  · rintro ρ rfl
    have m := nmE_le (cs := cs) (p := p) 6 p
    have ca := char_ok h (nmE cs p 6 p)
    have de := dec_ok (h.at (nmE cs p 6 p))
    unfold nmS at K1 K2
    generalize nmE cs p 6 p = e at *
    by_cases c : e = p
    · subst c
      rw [if_pos (.inl rfl)] at K2
      simp
      exact K2 e rfl
    · have c2 : ¬ (e : Int) = (p : Int) := by omega
      cases d : isD cs[e]? with
      | true =>
        rw [if_pos (.inr d)] at K2
        simp [c2, ca, de, d]
        exact K2 e rfl
      | false =>
        rw [if_neg (by rw [d]; simp [c])] at K1
        simp [c2, ca, de, d]
        exact K1 e rfl
end
end Kx

/- part -/
set_option Elab.async false
set_option linter.all false
set_option maxRecDepth 100000
set_option maxHeartbeats 8000000
namespace Kx
open PySem DL PyProof.Rows
theorem nmE_dig {cs : List Nat} {p : Nat} : ∀ (k e : Nat), (∀ i, p ≤ i → i < e → isD cs[i]? = true) → ∀ i, p ≤ i → i < nmE cs p k e → isD cs[i]? = true
  | 0, e, h, i, h1, h2 => h i h1 h2
  | k + 1, e, h, i, h1, h2 => by
    rw [nmE_succ] at h2
    split at h2
    · rename_i c
      refine nmE_dig k (e + 1) (fun j j1 j2 => ?_) i h1 h2
      by_cases je : j = e
      · rw [je]; exact c.1
      · exact h j j1 (by omega)
    · exact h i h1 h2
theorem slc_len {cs : List Nat} {a b : Nat} (hb : b ≤ cs.length) : (slc cs a b).length = b - a := by
  unfold slc
  rw [List.length_take, List.length_drop]
  omega
theorem slc_at {cs : List Nat} {a b i : Nat} (hi : i < b - a) : (slc cs a b)[i]? = cs[a + i]? := by
  unfold slc
  rw [List.getElem?_take_of_lt hi, List.getElem?_drop]
theorem slc_cons {cs : List Nat} {a b c : Nat} (h : cs[a]? = some c) (hb : a < b) : slc cs a b = c :: slc cs (a + 1) b := by
  obtain ⟨lt, e⟩ := List.getElem?_eq_some_iff.mp h
  unfold slc
  rw [List.drop_eq_getElem_cons lt, e, show b - a = (b - (a + 1)) + 1 by omega, List.take_succ_cons]
theorem slc_dig {cs : List Nat} {a b : Nat} (h : ∀ i, a ≤ i → i < b → isD cs[i]? = true) : NumText.AllDigits (slc cs a b) := fun c hc => by
  obtain ⟨i, lt, e⟩ := List.mem_iff_getElem.mp hc
  have l : (slc cs a b).length ≤ b - a := by
    unfold slc
    exact List.length_take_le _ _
  have g := h (a + i) (by omega) (by omega)
  have e2 : (slc cs a b)[i]? = some c := List.getElem?_eq_some_iff.mpr ⟨lt, e⟩
  rw [slc_at (by omega)] at e2
  rw [e2] at g
  have g : dgt c = true := g
  unfold dgt at g
  simpa using g
theorem txV_dig {l : List Nat} (h : NumText.AllDigits l) : txV l = ((NumText.digitsVal l : Nat) : Int) := by
  unfold txV
  split
  · rename_i r
    have := (h 45 List.mem_cons_self).1
    omega
  · rfl
theorem gint_dig {l : List Nat} (h : NumText.AllDigits l) (h1 : l ≠ []) (h2 : l.length ≤ 640) : gInt [.str (tx l)] = some (.im (.int (txV l))) := by
  have e : intText? (tx l) = some ((NumText.digitsVal l : Nat) : Int) := PySem.intText_digits (x := tx l) h h1 (by rw [tx_len]; omega)
  show (if (tx l).length ≤ 640 then (PySem.intText? (tx l)).map fun n => RV.im (.int n) else none) = _
  rw [if_pos (by rw [tx_len]; exact h2), e, txV_dig h]
  rfl
theorem gint_neg {l : List Nat} (h : NumText.AllDigits l) (h1 : l ≠ []) (h2 : l.length ≤ 600) : gInt [.str (tx (45 :: l))] = some (.im (.int (txV (45 :: l)))) := by
  have e : intText? (tx (45 :: l)) = some (-((NumText.digitsVal l : Nat) : Int)) := PySem.intText_neg (x := tx (45 :: l)) rfl h h1 (by rw [tx_len, List.length_cons]; omega)
  show (if (tx (45 :: l)).length ≤ 640 then (PySem.intText? (tx (45 :: l))).map fun n => RV.im (.int n) else none) = _
  rw [if_pos (by rw [tx_len, List.length_cons]; omega), e]
  rfl
structure NmOkS (cs : List Nat) (p e : Nat) : Prop where
  lt : p < e
  le6 : e ≤ p + 6
  len : e ≤ cs.length
  dig : NumText.AllDigits (slc cs p e)
theorem nmS_ok {cs : List Nat} {p q : Nat} (hp : p ≤ cs.length) (h : nmS cs p = .ok () q) : NmOkS cs p q := by
  unfold nmS at h
  split at h
  · cases h
  · rename_i c
    cases h
    obtain ⟨m1, m2, m3⟩ := nmE_le (cs := cs) (p := p) 6 p
    exact ⟨by omega, m2, m3 hp, slc_dig (nmE_dig 6 p fun i a b => by omega)⟩
theorem NmOkS.ne {cs : List Nat} {p e : Nat} (h : NmOkS cs p e) : slc cs p e ≠ [] := fun z => by
  have l := slc_len (a := p) h.len
  rw [z] at l
  have := h.lt
  simp at l
  omega
theorem NmOkS.int {cs : List Nat} {p e : Nat} (h : NmOkS cs p e) : gInt [.str (tx (slc cs p e))] = some (.im (.int (txV (slc cs p e)))) := gint_dig h.dig h.ne (by rw [slc_len h.len]; have := h.le6; omega)
theorem NmOkS.intN {cs : List Nat} {p e : Nat} (h : NmOkS cs (p + 1) e) (hm : cs[p]? = some 45) : gInt [.str (tx (slc cs p e))] = some (.im (.int (txV (slc cs p e)))) := by
  rw [slc_cons hm (by have := h.lt; omega)]
  exact gint_neg h.dig h.ne (by rw [slc_len h.len]; have := h.le6; omega)
section
variable {cs : List Nat} (h : Cs cs)
include h
theorem frT_wp {p e : Nat} {s s0 : Int} (he : e ≤ cs.length) (hi : gInt [.str (tx (slc cs p e))] = some (.im (.int (txV (slc cs p e))))) {x4 x5 x6 : SV} {Q : RV → SE → Prop} {E : Exc → SE → Prop}
    (K1 : ∀ v q, frT cs p e = .ok v q → Q (.im (.tup [numD v, .int (q : Int)])) [.im (.str (tx cs)), .im (.int s0)]) (K2 : ∀ q, frT cs p e = .no q → E (exT q) [.im (.str (tx cs)), .im (.int s0)]) (n4 : Nio x4) (n5 : Nio x5) (n6 : Nio x6) :
    WP (sSeq (sIf (fun ρ => (dOp2 neD (dCall 2 [] m_char_at (aCons (dVar 0) (aCons (dVar 3) (aNil)))) (dC (.str "/")) ρ).bind asB) (sRet (dTup (aCons (dTup (aCons (dCb gInt (vCons (dSl (dVar 0) (oSome (dVar 2)) (oSome (dVar 3))) (vNil))) (aCons (dC (.int 1)) (aNil)))) (aCons (dVar 3) (aNil))))) (sPass)) (sSeq (sSet 4 (dCall 2 [] m_scan_number (aCons (dVar 0) (aCons (dOp2 addD (dVar 3) (dC (.int 1))) (aNil))))) (sSeq (sPar 5 6 (aCons (dCb gInt (vCons (dSl (dVar 0) (oSome (dVar 2)) (oSome (dVar 3))) (vNil))) (aCons (dCb gInt (vCons (dSl (dVar 0) (oSome (dOp2 addD (dVar 3) (dC (.int 1)))) (oSome (dVar 4))) (vNil))) (aNil)))) (sSeq (sIf (dOrT (fun ρ => (dOp2 ltD (dVar 6) (dC (.int 2)) ρ).bind asB) (fun ρ => (dOp2 neD (dCall 2 [] m_common_divisor (aCons (dCb gAbs (vCons (dVar 5) (vNil))) (aCons (dVar 6) (aNil)))) (dC (.int 1)) ρ).bind asB)) (sRaise1 "InvalidText" "InvalidText" "position" (dOp2 addD (dVar 3) (dC (.int 1)))) (sPass)) (sRet (dTup (aCons (dTup (aCons (dVar 5) (aCons (dVar 6) (aNil)))) (aCons (dVar 4) (aNil)))))))) [.im (.str (tx cs)), .im (.int s), .im (.int (p : Int)), .im (.int (e : Int)), x4, x5, x6])
      (fun f ρ => WP (mRet [.im (.str (tx cs)), .im (.int s0)] f ρ) Q E) (fun x ρ => E x (outs [.im (.str (tx cs)), .im (.int s0)] ρ)) := by
  have ca := char_ok h e
  have nl := ne_sl (h.at e)
  have sl := sl_two h (a := p) he
  by_cases c : cs[e]? = some 47
  · have lt : e < cs.length := (List.getElem?_eq_some_iff.mp c).1
    have eT : frT cs p e = (nmS cs (e + 1)).thn fun _ l => if txV (slc cs (e + 1) l) < 2 ∨ Nat.gcd (txV (slc cs p e)).natAbs (txV (slc cs (e + 1) l)).natAbs ≠ 1 then .no (e + 1) else .ok (txV (slc cs p e), txV (slc cs (e + 1) l)) l := by
      unfold frT
      rw [if_neg (fun z => z c)]
    rw [eT] at K1 K2
    rw [decide_eq_true c] at nl
    have N : ∀ {Q : RV → SE → Prop} {E : Exc → SE → Prop}, (∀ q, nmS cs (e + 1) = .ok () q → Q (.im (.int (q : Int))) [.im (.str (tx cs)), .im (.int ((e : Int) + 1))]) → (∀ q, nmS cs (e + 1) = .no q → E (exT q) [.im (.str (tx cs)), .im (.int ((e : Int) + 1))]) → WP (m_scan_number [.im (.str (tx cs)), .im (.int ((e : Int) + 1))]) Q E := fun {Q E} k1 k2 => number_wp h (p := e + 1) lt k1 k2
    simp [ca, nl, n4, n5, n6]
    refine N (fun l hl => ?_) (fun l hl => ?_)
    · have o := nmS_ok lt hl
      have sl2 := sl_two h (a := e + 1) o.len
      have sl2 : slD (.str (tx cs)) (some ((e : Int) + 1)) (some (l : Int)) = _ := sl2
      have i2 := o.int
      rw [hl] at K1 K2
      simp only [Sc.thn] at K1 K2
      have V : txV (slc cs (e + 1) l) = ((NumText.digitsVal (slc cs (e + 1) l) : Nat) : Int) := txV_dig o.dig
      generalize txV (slc cs (e + 1) l) = b at *
      generalize NumText.digitsVal (slc cs (e + 1) l) = bn at *
      subst V
      generalize txV (slc cs p e) = a at *
      by_cases c2 : ((bn : Nat) : Int) < 2
      · have k := K2 (e + 1) (if_pos (.inl c2))
        simp [sl, hi, sl2, i2, n4, n5, n6, c2]
        exact k
      · have cd := cd_ok a.natAbs bn
        by_cases g : Nat.gcd a.natAbs bn = 1
        · have k := K1 _ _ (if_neg (fun z => z.elim c2 (fun y => y g)))
          have ng : neD (.int ((Nat.gcd a.natAbs bn : Nat) : Int)) (.int 1) = some (.im (.bl false)) := by
            rw [g]
            exact ne_self (n := 1) rfl (by decide)
          simp [sl, hi, sl2, i2, n4, n5, n6, c2, cd, ng]
          exact k
        · have k := K2 (e + 1) (if_pos (.inr g))
          have ng : neD (.int ((Nat.gcd a.natAbs bn : Nat) : Int)) (.int 1) = some (.im (.bl true)) := neD_ne (n := 1) rfl rfl (by decide) fun z => g (by have := D.int.inj z; omega)
          simp [sl, hi, sl2, i2, n4, n5, n6, c2, cd, ng]
          exact k
    · rw [hl] at K2
      have k := K2 l rfl
      simp
      exact k
  · have eT : frT cs p e = .ok (txV (slc cs p e), 1) e := by
      unfold frT
      rw [if_pos c]
    rw [eT] at K1
    rw [decide_eq_false c] at nl
    have k := K1 _ _ rfl
    simp [ca, nl, sl, hi]
    exact k
theorem fraction_wp {p : Nat} (hp : p ≤ cs.length) {Q : RV → SE → Prop} {E : Exc → SE → Prop} (K1 : ∀ v q, frS cs p = .ok v q → Q (.im (.tup [numD v, .int (q : Int)])) [.im (.str (tx cs)), .im (.int (p : Int))]) (K2 : ∀ q, frS cs p = .no q → E (exT q) [.im (.str (tx cs)), .im (.int (p : Int))]) : WP (m_scan_fraction [.im (.str (tx cs)), .im (.int (p : Int))]) Q E := by
  refine wp_fn ?_
  have ca := char_ok h p
  have em := eq_mi (h.at p)
  simp [-u_sSeq, b_scan_fraction]
  refine wp_seqI (fun ρ => ρ = [.im (.str (tx cs)), .im (.int (p : Int)), .im (.int (p : Int)), .no, .no, .no, .no]) (by simp) ?_
  rintro ρ rfl
  by_cases c : cs[p]? = some 45
  · have lt : p < cs.length := (List.getElem?_eq_some_iff.mp c).1
    have ca2 := char_ok h (p + 1)
    have ca2 : m_char_at [.im (.str (tx cs)), .im (.int ((p : Int) + 1))] = .ok (.im (.str (chS cs[p + 1]?))) [.im (.str (tx cs)), .im (.int ((p : Int) + 1))] := ca2
    have e0 := eq_ze (h.at (p + 1))
    have ai : addI (.int (p : Int)) (.int 1) = some (.im (.int ((p : Int) + 1))) := rfl
    unfold frS at K1 K2
    rw [if_pos c] at K1 K2
    rw [decide_eq_true c] at em
    by_cases c0 : cs[p + 1]? = some 48
    · rw [if_pos c0] at K2
      rw [decide_eq_true c0] at e0
      have k := K2 _ rfl
      simp [ca, em, ai, ca2, e0]
      exact k
    · rw [if_neg c0] at K1 K2
      rw [decide_eq_false c0] at e0
      refine wp_seqI (fun ρ => ρ = [.im (.str (tx cs)), .im (.int ((p : Int) + 1)), .im (.int (p : Int)), .no, .no, .no, .no]) (by simp [ca, em, ai, ca2, e0]) ?_
      rintro ρ rfl
      have N : ∀ {Q : RV → SE → Prop} {E : Exc → SE → Prop}, (∀ q, nmS cs (p + 1) = .ok () q → Q (.im (.int (q : Int))) [.im (.str (tx cs)), .im (.int ((p : Int) + 1))]) → (∀ q, nmS cs (p + 1) = .no q → E (exT q) [.im (.str (tx cs)), .im (.int ((p : Int) + 1))]) → WP (m_scan_number [.im (.str (tx cs)), .im (.int ((p : Int) + 1))]) Q E := fun {Q E} k1 k2 => number_wp h (p := p + 1) lt k1 k2
      have F := fun {e : Nat} (he : e ≤ cs.length) hi K1 K2 => frT_wp h (p := p) (e := e) (s := (p : Int) + 1) (s0 := (p : Int)) he hi (x4 := .no) (x5 := .no) (x6 := .no) (Q := Q) (E := E) K1 K2 nio_no nio_no nio_no
      have G : ∀ {e : Nat}, nmS cs (p + 1) = .ok () e → _ := fun {e} (hl : nmS cs (p + 1) = .ok () e) => F (nmS_ok lt hl).len ((nmS_ok lt hl).intN c) (fun v q z => K1 v q (by rw [hl]; exact z)) (fun q z => K2 q (by rw [hl]; exact z))
      refine wp_seqI (fun ρ => ∃ e : Nat, nmS cs (p + 1) = .ok () e ∧ ρ = [.im (.str (tx cs)), .im (.int ((p : Int) + 1)), .im (.int (p : Int)), .im (.int (e : Int)), .no, .no, .no]) ?_ ?_
      · simp
        refine N (fun q hq => ?_) (fun q hq => ?_)
        · simp
          exact ⟨q, hq, rfl⟩
        · have k := K2 q (by rw [hq]; rfl)
          simp
          exact k
      · rintro ρ ⟨e, hl, rfl⟩
        exact G hl
  · unfold frS at K1 K2
    rw [if_neg c] at K1 K2
    rw [decide_eq_false c] at em
    refine wp_seqI (fun ρ => ρ = [.im (.str (tx cs)), .im (.int (p : Int)), .im (.int (p : Int)), .no, .no, .no, .no]) (by simp [ca, em]) ?_
    rintro ρ rfl
    refine wp_seqI (fun ρ => ∃ e : Nat, nmS cs p = .ok () e ∧ ρ = [.im (.str (tx cs)), .im (.int (p : Int)), .im (.int (p : Int)), .im (.int (e : Int)), .no, .no, .no]) ?_ ?_
    · simp
      refine number_wp h hp (fun q hq => ?_) (fun q hq => ?_)
      · simp
        exact ⟨q, hq, rfl⟩
      · have k := K2 q (by rw [hq]; rfl)
        simp
        exact k
    · rintro ρ ⟨e, hl, rfl⟩
      have o := nmS_ok hp hl
      exact frT_wp h (p := p) (e := e) (s := (p : Int)) (s0 := (p : Int)) o.len o.int (fun v q z => K1 v q (by rw [hl]; exact z)) (fun q z => K2 q (by rw [hl]; exact z)) nio_no nio_no nio_no
end
end Kx

/- part -/
set_option Elab.async false
set_option linter.all false
set_option maxRecDepth 100000
set_option maxHeartbeats 8000000
namespace Kx
open PySem DL PyProof.Rows
@[simp ↓, simp] theorem u_dKGet {kvs : List (Str × Int)} {ms : DM (List AV)} {ρ : SE} {c : Cont RV} : Wp (dKGet kvs ms ρ) = Wp ((ms ρ).bind fun as ρ2 => kgD kvs (avD as) ρ2 : R RV) := rfl
theorem isname_ok {x : Str} (h : x.length ≤ 1000000) : m_is_name [.im (.str x)] = .ok (.im (.bl (isNm x))) [.im (.str x)] := by
  have hl : x.cps.toList.length ≤ 1000000 := by simpa [Str.length] using h
  have e1 := gLen_str h
  have ik : inKD true ks_WORDS (.str x) = some (.im (.bl (!wds3.contains x))) := by
    show some (RV.im (.bl (true != wds3.contains x))) = _
    rw [Bool.true_bne]
  unfold isNm
  refine Wp.eq (wp_fn ?_)
  by_cases h2 : 2 ≤ x.length
  · have i2 : (2 : Int) ≤ (x.length : Int) := by omega
    by_cases h8 : x.length ≤ 8
    · have i8 : (x.length : Int) ≤ 8 := by omega
      cases k : wds3.contains x with
      | true =>
        rw [k] at ik
        simp [-List.contains_cons, b_is_name, e1, i2, i8, ik, h2, h8]
      | false =>
        rw [k] at ik
        rw [decide_eq_true h2, decide_eq_true h8]
        simp [-List.contains_cons, b_is_name, e1, i2, i8, ik, iSeqs]
        refine wp_cmapG (fun c => D.str ⟨#[c]⟩) (fun c => D.bl (lowc c)) x.cps.toList rfl rfl hl (fun c hc => ?_) ?_
        · have z : inD false (.str ⟨#[c]⟩) (.str "abcdefghijklmnopqrstuvwxyz") = some (.im (.bl (lowc c))) := in_let
          simp [z, rest]
        · have g : gAll [.lst (x.cps.toList.map fun c => D.bl (lowc c))] = some (.im (.bl (x.cps.toList.all lowc))) := by
            rw [gAll_of (bs := x.cps.toList.map lowc) (by rw [List.map_map]; rfl), List.all_map]
            rfl
          simp [-List.all_map, g]
    · have i8 : ¬ (x.length : Int) ≤ 8 := by omega
      simp [-List.contains_cons, b_is_name, e1, i2, i8, h8]
  · have i2 : ¬ (2 : Int) ≤ (x.length : Int) := by omega
    simp [-List.contains_cons, b_is_name, e1, i2, h2]
theorem eq_str {x y : Str} (hx : x.cps.all (· < 0x110000) = true) (hy : y.cps.all (· < 0x110000) = true) : eqD (.str x) (.str y) = some (.im (.bl (decide (x = y)))) := by
  rw [eqD_strA (sok_of hx) (sok_of hy)]
  congr 4
theorem wdE_go {cs : List Nat} {p c : Nat} (h : cs[p]? = some c) (l : lowc c = true) : wdE cs p = wdE cs (p + 1) := by
  obtain ⟨lt, e⟩ := List.getElem?_eq_some_iff.mp h
  unfold wdE
  rw [List.drop_eq_getElem_cons lt, e, List.takeWhile_cons, l]
  simp
  omega
theorem wdE_stop {cs : List Nat} {p : Nat} (h : isL cs[p]? = false) : wdE cs p = p := by
  unfold wdE
  cases e : cs[p]? with
  | none =>
    rw [List.drop_of_length_le (List.getElem?_eq_none_iff.mp e)]
    rfl
  | some c =>
    obtain ⟨lt, e2⟩ := List.getElem?_eq_some_iff.mp e
    rw [e] at h
    have h : lowc c = false := h
    rw [List.drop_eq_getElem_cons lt, e2, List.takeWhile_cons, h]
    rfl
theorem wdE_le {cs : List Nat} {p : Nat} (h : p ≤ cs.length) : p ≤ wdE cs p ∧ wdE cs p ≤ cs.length := by
  unfold wdE
  have := List.Sublist.length_le (List.takeWhile_sublist (l := cs.drop p) lowc)
  rw [List.length_drop] at this
  omega
def Prt (cs : List Nat) (lev : Int) (m : SE → R RV) (f : Nat → Sc D) : Prop := ∀ (p : Nat) (Q : RV → SE → Prop) (E : Exc → SE → Prop), (∀ ds q, f p = .ok (.tup ds) q → Q (.im (.tup [.tup ds, .int (q : Int)])) [.im (.str (tx cs)), .im (.int (p : Int)), .im (.int lev)]) → (∀ q, f p = .no q → E (exT q) [.im (.str (tx cs)), .im (.int (p : Int)), .im (.int lev)]) → WP (m [.im (.str (tx cs)), .im (.int (p : Int)), .im (.int lev)]) Q E
theorem c_sp : (" " : Str).cps.toList = [32] := by decide +kernel
theorem c_lp : ("(" : Str).cps.toList = [40] := by decide +kernel
theorem c_rp : (")" : Str).cps.toList = [41] := by decide +kernel
theorem c_cs : (", " : Str).cps.toList = [44, 32] := by decide +kernel
theorem Sc.thn_ok {α β : Type} {a : α} {p : Nat} {f : α → Nat → Sc β} : (Sc.ok a p).thn f = f a p := rfl
theorem Sc.thn_no {α β : Type} {p : Nat} {f : α → Nat → Sc β} : (Sc.no p : Sc α).thn f = .no p := rfl
abbrev pmKV : List (D × D) := [(.str "+", .str "add"), (.str "-", .str "subtract")]
theorem pm_disp {ρ : SE} : dispR pmKV ρ = .ok (.ow (.xt .dct [.str "+", .str "-"] [.str "add", .str "subtract"])) ρ := if_pos (by decide +kernel)
theorem pm_ky {o : Option Nat} : kyB (.str (chS o)) [.str "+", .str "-"] = true := keyS.ky (x := chS o) (l := [("+" : Str), "-"])
theorem pm_dg {o : Option Nat} : (dGet (.str (chS o)) [.str "+", .str "-"] [.str "add", .str "subtract"]).getD (.str "") = .str (if o = some 43 then "add" else if o = some 45 then "subtract" else "") := by
  show (dGet (.str (chS o)) ([("+" : Str), "-"].map D.str) [.str "add", .str "subtract"]).getD (.str "") = _
  have pl := lt_pl
  have mi := lt_mi
  by_cases c1 : o = some 43
  · subst c1
    rw [← pl, if_pos rfl]
    rfl
  · by_cases c2 : o = some 45
    · subst c2
      rw [← mi, if_neg (by decide), if_pos rfl]
      rfl
    · rw [if_neg c1, if_neg c2]
      have n : chS o ∉ [("+" : Str), "-"] := fun z => by
        rw [pl, mi] at z
        rcases List.mem_cons.mp z with z | z
        · exact c1 (chS_inj z)
        · exact c2 (chS_inj (List.mem_singleton.mp z))
      have g : dGet (.str (chS o)) ([("+" : Str), "-"].map D.str) [.str "add", .str "subtract"] = none := by
        unfold dGet
        rw [keyS.fIx]
        have e : ([("+" : Str), "-"].findIdx? fun y => decide (y = chS o)) = none := by
          rw [List.findIdx?_eq_none_iff]
          intro y hy
          exact decide_eq_false fun z => n (z ▸ hy)
        rw [e]
        rfl
      rw [g]
      rfl
section
variable {cs : List Nat} (h : Cs cs) {lev : Int} {m : SE → R RV} {f : Nat → Sc D} (F : Prt cs lev m f) (T : ∀ p d q, f p = .ok d q → ∃ ds, d = .tup ds)
include h F
theorem pair_wp (p : Nat) {Q : RV → SE → Prop} {E : Exc → SE → Prop} (K1 : ∀ ds q, pairS f cs p = .ok (.tup ds) q → Q (.im (.tup [.tup ds, .int (q : Int)])) [.im (.str (tx cs)), .im (.int (p : Int)), .im (.int lev)]) (K2 : ∀ q, pairS f cs p = .no q → E (exT q) [.im (.str (tx cs)), .im (.int (p : Int)), .im (.int lev)]) : WP (m_parse_pair m [.im (.str (tx cs)), .im (.int (p : Int)), .im (.int lev)]) Q E := by
  unfold pairS at K1 K2
  refine wp_fn ?_
  simp [b_parse_pair]
  refine F p _ _ (fun d1 q hq => ?_) (fun q hq => ?_)
  · rw [hq] at K1 K2
    rw [Sc.thn_ok] at K1 K2
    simp
    refine exact_wp h q c_sp (by decide) (fun q2 hq2 => ?_) (fun q2 hq2 => ?_)
    · rw [hq2] at K1 K2
      rw [Sc.thn_ok] at K1 K2
      have ca := char_ok h q2
      have main : ∀ o : Str, (o = "add" ∨ o = "subtract") → (∀ ds q, opS f cs q2 (.tup d1) o = .ok (.tup ds) q → Q (.im (.tup [.tup ds, .int (q : Int)])) [.im (.str (tx cs)), .im (.int (p : Int)), .im (.int lev)]) → (∀ q, opS f cs q2 (.tup d1) o = .no q → E (exT q) [.im (.str (tx cs)), .im (.int (p : Int)), .im (.int lev)]) →
          WP (sSeq (sIf (fun ρ => (dOp2 eqD (dVar 4) (dC (.str "")) ρ).bind asB) (sRaise1 "InvalidText" "InvalidText" "position" (dVar 1)) (sPass)) (sSeq (sSet 1 (dCall 3 [] m_scan_exact (aCons (dVar 0) (aCons (dOp2 addD (dVar 1) (dC (.int 1))) (aCons (dC (.str " ")) (aNil)))))) (sSeq (sAsg (tgTup 2 (tgCons (tgName 5) (tgCons (tgName 1) (tgNil)))) (dCall 3 [] m (aCons (dVar 0) (aCons (dVar 1) (aCons (dVar 2) (aNil)))))) (sRet (dTup (aCons (dTup (aCons (dVar 4) (aCons (dVar 3) (aCons (dVar 5) (aNil))))) (aCons (dCall 3 [] m_scan_exact (aCons (dVar 0) (aCons (dVar 1) (aCons (dC (.str ")")) (aNil))))) (aNil))))))) [.im (.str (tx cs)), .im (.int (q2 : Int)), .im (.int lev), .im (.tup d1), .im (.str o), .no])
            (fun f ρ => WP (mRet [.im (.str (tx cs)), .im (.int (p : Int)), .im (.int lev)] f ρ) Q E) (fun x ρ => E x (outs [.im (.str (tx cs)), .im (.int (p : Int)), .im (.int lev)] ρ)) := fun o ho k1 k2 => by
        unfold opS at k1 k2
        have eo : eqD (.str o) (.str "") = some (.im (.bl false)) := by
          rcases ho with rfl | rfl
          · exact eqD_ne (n := 1) (lit_ok _) (lit_ok _) (by decide) fun z => absurd (D.str.inj z) (by decide +kernel)
          · exact eqD_ne (n := 1) (lit_ok _) (lit_ok _) (by decide) fun z => absurd (D.str.inj z) (by decide +kernel)
        have X : ∀ {Q : RV → SE → Prop} {E : Exc → SE → Prop}, (∀ q, exS cs (q2 + 1) [32] = .ok () q → Q (.im (.int (q : Int))) [.im (.str (tx cs)), .im (.int ((q2 : Int) + 1)), .im (.str " ")]) → (∀ q, exS cs (q2 + 1) [32] = .no q → E (exT q) [.im (.str (tx cs)), .im (.int ((q2 : Int) + 1)), .im (.str " ")]) → WP (m_scan_exact [.im (.str (tx cs)), .im (.int ((q2 : Int) + 1)), .im (.str " ")]) Q E := fun {Q E} a b => exact_wp h (q2 + 1) c_sp (by decide) a b
        simp [eo]
        refine X (fun q3 hq3 => ?_) (fun q3 hq3 => ?_)
        · rw [hq3] at k1 k2
          rw [Sc.thn_ok] at k1 k2
          simp
          refine F q3 _ _ (fun d2 q4 hq4 => ?_) (fun q4 hq4 => ?_)
          · rw [hq4] at k1 k2
            rw [Sc.thn_ok] at k1 k2
            simp
            refine exact_wp h q4 c_rp (by decide) (fun q5 hq5 => ?_) (fun q5 hq5 => ?_)
            · rw [hq5] at k1
              rw [Sc.thn_ok] at k1
              simp
              exact k1 _ _ rfl
            · rw [hq5] at k2
              rw [Sc.thn_no] at k2
              simp
              exact k2 _ rfl
          · rw [hq4] at k2
            rw [Sc.thn_no] at k2
            simp
            exact k2 _ rfl
        · rw [hq3] at k2
          rw [Sc.thn_no] at k2
          simp
          exact k2 _ rfl
      simp [pm_disp, ca, pm_ky, pm_dg, isDctO]
      by_cases c1 : cs[q2]? = some 43
      · rw [if_pos c1] at K1 K2
        have z := main "add" (.inl rfl) K1 K2
        simp [c1]
        simpa using z
      · by_cases c2 : cs[q2]? = some 45
        · rw [if_neg c1, if_pos c2] at K1 K2
          have z := main "subtract" (.inr rfl) K1 K2
          simp [c1, c2]
          simpa using z
        · rw [if_neg c1, if_neg c2] at K2
          have e0 : eqD (.str "") (.str "") = some (.im (.bl true)) := eqD_eq (n := 1) (lit_ok _) (by decide) rfl
          have k := K2 _ rfl
          simp [c1, c2, e0]
          exact k
    · rw [hq2] at K2
      rw [Sc.thn_no] at K2
      simp
      exact K2 _ rfl
  · rw [hq] at K2
    rw [Sc.thn_no] at K2
    simp
    exact K2 _ rfl
end
end Kx

/- part -/
set_option Elab.async false
set_option linter.all false
set_option maxRecDepth 100000
set_option maxHeartbeats 8000000
namespace Kx
open PySem DL PyProof.Rows
theorem kv_get {x : Str} : (kv_WORDS.lookup x).getD 1 = if x = "max" ∨ x = "min" then 2 else 1 := by
  by_cases c1 : x = "max"
  · subst c1
    rw [if_pos (.inl rfl)]
    decide +kernel
  · by_cases c2 : x = "min"
    · subst c2
      rw [if_pos (.inr rfl)]
      decide +kernel
    · rw [if_neg (fun z => z.elim c1 c2)]
      by_cases c3 : x = "abs"
      · subst c3
        decide +kernel
      · show (List.lookup x [(("max" : Str), (2 : Int)), ("min", 2), ("abs", 1)]).getD 1 = 1
        rw [List.lookup_cons, beq_eq_false_iff_ne.mpr c1, List.lookup_cons, beq_eq_false_iff_ne.mpr c2, List.lookup_cons, beq_eq_false_iff_ne.mpr c3]
        rfl
section
variable {cs : List Nat} (h : Cs cs) {lev : Int} {m : SE → R RV} {f : Nat → Sc D} (F : Prt cs lev m f)
include h F
theorem word_wp (p : Nat) (hp : p < cs.length) {Q : RV → SE → Prop} {E : Exc → SE → Prop} (K1 : ∀ ds q, wordS f cs p = .ok (.tup ds) q → Q (.im (.tup [.tup ds, .int (q : Int)])) [.im (.str (tx cs)), .im (.int (p : Int)), .im (.int lev)]) (K2 : ∀ q, wordS f cs p = .no q → E (exT q) [.im (.str (tx cs)), .im (.int (p : Int)), .im (.int lev)]) : WP (m_parse_word m [.im (.str (tx cs)), .im (.int (p : Int)), .im (.int lev)]) Q E := by
  refine wp_fn ?_
  simp [-u_sSeq, b_parse_word]
  refine wp_seqI (fun ρ => ρ = [.im (.str (tx cs)), .im (.int (p : Int)), .im (.int lev), .im (.int (p : Int)), .no, .no, .no, .no]) (by simp) ?_
  rintro ρ rfl
  have wl := wdE_le (cs := cs) (p := p) (by omega)
  refine wp_seqI (fun ρ => ρ = [.im (.str (tx cs)), .im (.int (p : Int)), .im (.int lev), .im (.int ((wdE cs p : Nat) : Int)), .no, .no, .no, .no]) ?_ ?_
  · refine wp_whileJ (fun n ρ => ∃ (e : Nat), p ≤ e ∧ e ≤ cs.length ∧ n = cs.length - e ∧ wdE cs e = wdE cs p ∧ ρ = [.im (.str (tx cs)), .im (.int (p : Int)), .im (.int lev), .im (.int (e : Int)), .no, .no, .no, .no]) (n := cs.length - p) ⟨p, Nat.le_refl _, by omega, rfl, rfl, rfl⟩ ?_
    rintro n ρ J ⟨e, h1, h2, rfl, h3, rfl⟩ hJ
    have ca := char_ok h e
    have ne := ne_em (h.at e)
    have ai : addI (.int (e : Int)) (.int 1) = some (.im (.int ((e : Int) + 1))) := rfl
    cases hc : cs[e]? with
    | none =>
      rw [wdE_stop (by rw [hc]; rfl)] at h3
      rw [hc] at ca ne
      simp [ca, ne, ← h3]
    | some c =>
      rw [hc] at ca ne
      have il := @in_let c
      have lt : e < cs.length := (List.getElem?_eq_some_iff.mp hc).1
      cases hl : lowc c with
      | false =>
        rw [wdE_stop (by rw [hc]; exact hl)] at h3
        rw [hl] at il
        simp [ca, ne, il, ← h3]
      | true =>
        rw [wdE_go hc hl] at h3
        rw [hl] at il
        generalize hN : wdE cs p = N at *
        simp [ca, ne, il, ai]
        exact hJ (cs.length - (e + 1)) _ (by omega) ⟨e + 1, by omega, lt, rfl, h3, rfl⟩
  · rintro ρ rfl
    unfold wordS at K1 K2
    have sl := sl_two h (a := p) wl.2
    have tO := tx_all (slc_lt h (a := p) (b := wdE cs p))
    have l6 : (tx (slc cs p (wdE cs p))).length ≤ 1000000 := by
      rw [tx_len]
      unfold slc
      have := List.length_take_le (wdE cs p - p) (cs.drop p)
      have := h.len
      omega
    have nm := isname_ok l6
    have ex := eq_str tO (lit_ok "x")
    have ea := eq_str tO (lit_ok "abs")
    generalize tx (slc cs p (wdE cs p)) = x at *
    generalize wdE cs p = e at *
    have ik : inKD true ks_WORDS (.str x) = some (.im (.bl (!wds3.contains x))) := by
      show some (RV.im (.bl (true != wds3.contains x))) = _
      rw [Bool.true_bne]
    by_cases c1 : x = "x"
    · rw [if_pos c1] at K1
      rw [decide_eq_true c1] at ex
      have k := K1 _ _ rfl
      simp [sl, ex]
      exact k
    · rw [if_neg c1] at K1 K2
      rw [decide_eq_false c1] at ex
      by_cases c2 : wds3.contains x = false ∧ isNm x = false
      · rw [if_pos c2] at K2
        rw [c2.1] at ik
        rw [c2.2] at nm
        have k := K2 _ rfl
        simp [-List.contains_cons, sl, ex, ik, nm]
        exact k
      · rw [if_neg c2] at K1 K2
        unfold argS at K1 K2
        have go : WP (sSeq (sAsg (tgTup 2 (tgCons (tgName 5) (tgCons (tgName 3) (tgNil)))) (dCall 3 [] m (aCons (dVar 0) (aCons (dCall 3 [] m_scan_exact (aCons (dVar 0) (aCons (dVar 3) (aCons (dC (.str "(")) (aNil))))) (aCons (dVar 2) (aNil)))))) (sSeq (sIf (fun ρ => (dOp2 eqD (dKGet kv_WORDS (aCons (dVar 4) (aCons (dC (.int 1)) (aNil)))) (dC (.int 1)) ρ).bind asB) (sSeq (sSet 6 (dIf (fun ρ => (dOp2 eqD (dVar 4) (dC (.str "abs")) ρ).bind asB) (dTup (aCons (dC (.str "abs")) (aCons (dVar 5) (aNil)))) (dTup (aCons (dC (.str "call")) (aCons (dVar 4) (aCons (dVar 5) (aNil))))))) (sRet (dTup (aCons (dVar 6) (aCons (dCall 3 [] m_scan_exact (aCons (dVar 0) (aCons (dVar 3) (aCons (dC (.str ")")) (aNil))))) (aNil)))))) (sPass)) (sSeq (sAsg (tgTup 2 (tgCons (tgName 7) (tgCons (tgName 3) (tgNil)))) (dCall 3 [] m (aCons (dVar 0) (aCons (dCall 3 [] m_scan_exact (aCons (dVar 0) (aCons (dVar 3) (aCons (dC (.str ", ")) (aNil))))) (aCons (dVar 2) (aNil)))))) (sRet (dTup (aCons (dTup (aCons (dVar 4) (aCons (dVar 5) (aCons (dVar 7) (aNil))))) (aCons (dCall 3 [] m_scan_exact (aCons (dVar 0) (aCons (dVar 3) (aCons (dC (.str ")")) (aNil))))) (aNil))))))) [.im (.str (tx cs)), .im (.int (p : Int)), .im (.int lev), .im (.int (e : Int)), .im (.str x), .no, .no, .no])
            (fun f ρ => WP (mRet [.im (.str (tx cs)), .im (.int (p : Int)), .im (.int lev)] f ρ) Q E) (fun x ρ => E x (outs [.im (.str (tx cs)), .im (.int (p : Int)), .im (.int lev)] ρ)) := by
          simp
          refine exact_wp h e c_lp (by decide) (fun q hq => ?_) (fun q hq => ?_)
          · rw [hq] at K1 K2
            rw [Sc.thn_ok] at K1 K2
            simp
            refine F q _ _ (fun d1 q1 hq1 => ?_) (fun q1 hq1 => ?_)
            · rw [hq1] at K1 K2
              rw [Sc.thn_ok] at K1 K2
              by_cases c3 : x = "max" ∨ x = "min"
              · rw [if_pos c3] at K1 K2
                have kg := @kv_get x
                rw [if_pos c3] at kg
                simp [kgD, kg]
                refine exact_wp h q1 c_cs (by decide) (fun q2 hq2 => ?_) (fun q2 hq2 => ?_)
                · rw [hq2] at K1 K2
                  rw [Sc.thn_ok] at K1 K2
                  simp
                  refine F q2 _ _ (fun d2 q3 hq3 => ?_) (fun q3 hq3 => ?_)
                  · rw [hq3] at K1 K2
                    rw [Sc.thn_ok] at K1 K2
                    simp
                    refine exact_wp h q3 c_rp (by decide) (fun q4 hq4 => ?_) (fun q4 hq4 => ?_)
                    · rw [hq4] at K1
                      rw [Sc.thn_ok] at K1
                      simp
                      exact K1 _ _ rfl
                    · rw [hq4] at K2
                      rw [Sc.thn_no] at K2
                      simp
                      exact K2 _ rfl
                  · rw [hq3] at K2
                    rw [Sc.thn_no] at K2
                    simp
                    exact K2 _ rfl
                · rw [hq2] at K2
                  rw [Sc.thn_no] at K2
                  simp
                  exact K2 _ rfl
              · rw [if_neg c3] at K1 K2
                have kg := @kv_get x
                rw [if_neg c3] at kg
                have R : ∀ res : List D, (∀ q, exS cs q1 [41] = .ok () q → (if x = "abs" then D.tup [.str "abs", .tup d1] else .tup [.str "call", .str x, .tup d1]) = .tup res → Q (.im (.tup [.tup res, .int (q : Int)])) [.im (.str (tx cs)), .im (.int (p : Int)), .im (.int lev)]) := fun res q hq hr => K1 res q (by rw [hq, Sc.thn_ok, hr])
                have R2 : ∀ q, exS cs q1 [41] = .no q → E (exT q) [.im (.str (tx cs)), .im (.int (p : Int)), .im (.int lev)] := fun q hq => K2 q (by rw [hq, Sc.thn_no])
                by_cases c4 : x = "abs"
                · rw [decide_eq_true c4] at ea
                  rw [if_pos c4] at R
                  simp [kgD, kg, ea]
                  refine exact_wp h q1 c_rp (by decide) (fun q2 hq2 => ?_) (fun q2 hq2 => ?_)
                  · simp
                    exact R _ _ hq2 rfl
                  · simp
                    exact R2 _ hq2
                · rw [decide_eq_false c4] at ea
                  rw [if_neg c4] at R
                  simp [kgD, kg, ea]
                  refine exact_wp h q1 c_rp (by decide) (fun q2 hq2 => ?_) (fun q2 hq2 => ?_)
                  · simp
                    exact R _ _ hq2 rfl
                  · simp
                    exact R2 _ hq2
            · rw [hq1] at K2
              rw [Sc.thn_no] at K2
              simp
              exact K2 _ rfl
          · rw [hq] at K2
            rw [Sc.thn_no] at K2
            simp
            exact K2 _ rfl
        cases k : wds3.contains x with
        | true =>
          rw [k] at ik
          simp [-List.contains_cons, sl, ex, ik]
          simpa using go
        | false =>
          have k2 : isNm x = true := by
            cases z : isNm x with
            | true => rfl
            | false => exact (c2 ⟨k, z⟩).elim
          rw [k] at ik
          rw [k2] at nm
          simp [-List.contains_cons, sl, ex, ik, nm]
          simpa using go
end
theorem prs_succ {cs : List Nat} {k p : Nat} : prs cs (k + 1) p = match cs[p]? with
    | none => .no p
    | some c => if c = 40 then pairS (prs cs k) cs (p + 1) else if lowc c = true then wordS (prs cs k) cs p else if dgt c = false ∧ c ≠ 45 then .no p else numS (prs cs k) cs p := rfl
section
variable {cs : List Nat} (h : Cs cs)
include h
theorem part_wp : ∀ (k n : Nat) (lev : Int), lev = 13 - (k : Int) → k + 1 ≤ n → Prt cs lev (m_parse_part n) (prs cs k)
  | k, 0, _, _, hn => by omega
  | 0, n + 1, lev, hl, hn => fun p Q E K1 K2 => by
    have es : m_parse_part (n + 1) = mFn n_parse_part.length (b_parse_part (m_parse_part n)) := rfl
    have ca := char_ok h p
    have l13 : (12 : Int) < lev := by omega
    have k := K2 p rfl
    rw [es]
    refine wp_fn ?_
    simp [b_parse_part, ca, l13]
    exact k
  | k + 1, n + 1, lev, hl, hn => fun p Q E K1 K2 => by
    have es : m_parse_part (n + 1) = mFn n_parse_part.length (b_parse_part (m_parse_part n)) := rfl
    have F := part_wp k n (lev + 1) (by omega) (by omega)
    have ca := char_ok h p
    have em := eq_em (h.at p)
    have lp := eq_lp (h.at p)
    have mi := ne_mi (h.at p)
    have l13 : ¬ (12 : Int) < lev := by omega
    rw [prs_succ] at K1 K2
    rw [es]
    refine wp_fn ?_
    cases hc : cs[p]? with
    | none =>
      rw [hc] at K2 ca em
      have k := K2 p rfl
      simp [b_parse_part, ca, l13, em]
      exact k
    | some c =>
      have lt : p < cs.length := (List.getElem?_eq_some_iff.mp hc).1
      rw [hc] at K1 K2 ca em lp mi
      have K1 : ∀ ds q, (if c = 40 then pairS (prs cs k) cs (p + 1) else if lowc c = true then wordS (prs cs k) cs p else if dgt c = false ∧ c ≠ 45 then .no p else numS (prs cs k) cs p) = .ok (.tup ds) q → _ := K1
      have K2 : ∀ q, (if c = 40 then pairS (prs cs k) cs (p + 1) else if lowc c = true then wordS (prs cs k) cs p else if dgt c = false ∧ c ≠ 45 then .no p else numS (prs cs k) cs p) = .no q → _ := K2
      by_cases c1 : c = 40
      · rw [if_pos c1] at K1 K2
        have X : ∀ {Q : RV → SE → Prop} {E : Exc → SE → Prop}, (∀ ds q, pairS (prs cs k) cs (p + 1) = .ok (.tup ds) q → Q (.im (.tup [.tup ds, .int (q : Int)])) [.im (.str (tx cs)), .im (.int ((p : Int) + 1)), .im (.int (lev + 1))]) → (∀ q, pairS (prs cs k) cs (p + 1) = .no q → E (exT q) [.im (.str (tx cs)), .im (.int ((p : Int) + 1)), .im (.int (lev + 1))]) → WP (m_parse_pair (m_parse_part n) [.im (.str (tx cs)), .im (.int ((p : Int) + 1)), .im (.int (lev + 1))]) Q E := fun {Q E} a b => pair_wp h F (p + 1) a b
        rw [decide_eq_true (congrArg some c1)] at lp
        simp [b_parse_part, ca, l13, em, lp]
        refine X (fun ds q hq => ?_) (fun q hq => ?_)
        · simp
          exact K1 ds q hq
        · simp
          exact K2 q hq
      · rw [if_neg c1] at K1 K2
        rw [decide_eq_false (fun z => c1 (Option.some.inj z))] at lp
        have il := @in_let c
        cases hlw : lowc c with
        | true =>
          rw [if_pos hlw] at K1 K2
          rw [hlw] at il
          simp [b_parse_part, ca, l13, em, lp, il]
          refine word_wp h F p lt (fun ds q hq => ?_) (fun q hq => ?_)
          · simp
            exact K1 ds q hq
          · simp
            exact K2 q hq
        | false =>
          rw [if_neg (by rw [hlw]; decide)] at K1 K2
          rw [hlw] at il
          have id := @in_dec true c
          by_cases c2 : dgt c = false ∧ c ≠ 45
          · rw [if_pos c2] at K2
            rw [c2.1] at id
            rw [decide_eq_false (fun z => c2.2 (Option.some.inj z))] at mi
            have k := K2 p rfl
            simp [b_parse_part, ca, l13, em, lp, il, id, mi]
            exact k
          · rw [if_neg c2] at K1 K2
            unfold numS at K1 K2
            have rest' : WP (sSeq (sAsg (tgTup 2 (tgCons (tgName 4) (tgCons (tgName 1) (tgNil)))) (dCall 2 [] m_scan_fraction (aCons (dVar 0) (aCons (dVar 1) (aNil))))) (sSeq (sIf (fun ρ => (dOp2 neD (dCall 2 [] m_char_at (aCons (dVar 0) (aCons (dVar 1) (aNil)))) (dC (.str "*")) ρ).bind asB) (sRet (dTup (aCons (dTup (aCons (dC (.str "number")) (aCons (dVar 4) (aNil)))) (aCons (dVar 1) (aNil))))) (sPass)) (sSeq (sAsg (tgTup 2 (tgCons (tgName 5) (tgCons (tgName 1) (tgNil)))) (dCall 3 [] (m_parse_part n) (aCons (dVar 0) (aCons (dOp2 addD (dVar 1) (dC (.int 1))) (aCons (dOp2 addD (dVar 2) (dC (.int 1))) (aNil)))))) (sRet (dTup (aCons (dTup (aCons (dC (.str "multiple")) (aCons (dVar 4) (aCons (dVar 5) (aNil))))) (aCons (dVar 1) (aNil))))))) [.im (.str (tx cs)), .im (.int (p : Int)), .im (.int lev), .im (.str (chS (some c))), .no, .no])
                (fun f ρ => WP (mRet [.im (.str (tx cs)), .im (.int (p : Int)), .im (.int lev)] f ρ) Q E) (fun x ρ => E x (outs [.im (.str (tx cs)), .im (.int (p : Int)), .im (.int lev)] ρ)) := by
              simp
              refine fraction_wp h (p := p) (by omega) (fun v q hq => ?_) (fun q hq => ?_)
              · rw [hq] at K1 K2
                rw [Sc.thn_ok] at K1 K2
                have ca2 := char_ok h q
                have st := ne_st (h.at q)
                by_cases c3 : cs[q]? = some 42
                · rw [if_neg (fun z => z c3)] at K1 K2
                  rw [decide_eq_true c3] at st
                  have X : ∀ {Q : RV → SE → Prop} {E : Exc → SE → Prop}, (∀ ds r, prs cs k (q + 1) = .ok (.tup ds) r → Q (.im (.tup [.tup ds, .int (r : Int)])) [.im (.str (tx cs)), .im (.int ((q : Int) + 1)), .im (.int (lev + 1))]) → (∀ r, prs cs k (q + 1) = .no r → E (exT r) [.im (.str (tx cs)), .im (.int ((q : Int) + 1)), .im (.int (lev + 1))]) → WP (m_parse_part n [.im (.str (tx cs)), .im (.int ((q : Int) + 1)), .im (.int (lev + 1))]) Q E := fun {Q E} a b => F (q + 1) Q E a b
                  simp [numD, ca2, st]
                  refine X (fun ds r hr => ?_) (fun r hr => ?_)
                  · rw [hr] at K1
                    rw [Sc.thn_ok] at K1
                    have kk := K1 _ _ rfl
                    simp
                    exact kk
                  · rw [hr] at K2
                    rw [Sc.thn_no] at K2
                    have kk := K2 _ rfl
                    simp
                    exact kk
                · rw [if_pos c3] at K1
                  rw [decide_eq_false c3] at st
                  have kk := K1 _ _ rfl
                  simp [numD, ca2, st]
                  exact kk
              · rw [hq] at K2
                rw [Sc.thn_no] at K2
                have kk := K2 _ rfl
                simp
                exact kk
            cases hd : dgt c with
            | true =>
              rw [hd] at id
              simp [b_parse_part, ca, l13, em, lp, il, id]
              simpa using rest'
            | false =>
              have c45 : c = 45 := by
                cases Nat.decEq c 45 with
                | isTrue z => exact z
                | isFalse z => exact (c2 ⟨hd, z⟩).elim
              rw [hd] at id
              rw [decide_eq_true (congrArg some c45)] at mi
              simp [b_parse_part, ca, l13, em, lp, il, id, mi]
              simpa using rest'
theorem expression_wp {Q : RV → SE → Prop} {E : Exc → SE → Prop} (K1 : ∀ ds q, prsA cs = .ok (.tup ds) q → Q (.im (.tup ds)) [.im (.str (tx cs))]) (K2 : ∀ q, prsA cs = .no q → E (exT q) [.im (.str (tx cs))]) : WP (m_parse_expression [.im (.str (tx cs))]) Q E := by
  unfold prsA at K1 K2
  have e1 := len_tx h
  have X : ∀ {Q : RV → SE → Prop} {E : Exc → SE → Prop}, (∀ ds q, prs cs 12 0 = .ok (.tup ds) q → Q (.im (.tup [.tup ds, .int (q : Int)])) [.im (.str (tx cs)), .im (.int 0), .im (.int 1)]) → (∀ q, prs cs 12 0 = .no q → E (exT q) [.im (.str (tx cs)), .im (.int 0), .im (.int 1)]) → WP (m_parse_part 14 [.im (.str (tx cs)), .im (.int 0), .im (.int 1)]) Q E := fun {Q E} a b => part_wp h 12 14 1 (by decide) (by decide) 0 Q E a b
  refine wp_fn ?_
  simp [b_parse_expression]
  refine X (fun ds q hq => ?_) (fun q hq => ?_)
  · rw [hq] at K1 K2
    rw [Sc.thn_ok] at K1 K2
    by_cases c : q < cs.length
    · rw [if_pos c] at K2
      have c2 : (q : Int) < (cs.length : Int) := by omega
      have kk := K2 _ rfl
      simp [e1, c2]
      exact kk
    · rw [if_neg c] at K1
      have c2 : ¬ (q : Int) < (cs.length : Int) := by omega
      have kk := K1 _ _ rfl
      simp [e1, c2]
      exact kk
  · rw [hq] at K2
    rw [Sc.thn_no] at K2
    have kk := K2 _ rfl
    simp
    exact kk
end
end Kx

/- part -/
set_option Elab.async false
set_option linter.all false
set_option maxRecDepth 100000
set_option maxHeartbeats 8000000
namespace Kx
open PySem DL PyProof.Rows
def intL (i : Int) : List Nat := if i < 0 then 45 :: TL.numL i.natAbs else TL.numL i.natAbs
theorem tI_tx (i : Int) : tI i = tx (intL i) := by
  have key : (tI i).cps.toList = intL i := by
    unfold tI intL
    cases i with
    | ofNat m =>
      rw [if_neg (show ¬ Int.ofNat m < 0 from Int.not_lt.mpr (Int.natCast_nonneg m))]
      exact TL.tl_num m
    | negSucc m =>
      rw [if_pos (Int.negSucc_lt_zero m), PyProof.Rows.signs_ofString]
      show (("-" : String) ++ Nat.repr (m + 1)).toList.map Char.toNat = _
      rw [String.toList_append, List.map_append, Nat.toList_repr]
      rfl
  rw [tx_of (tI i), key]
def txQ (q : Rat) : List Nat := intL q.num ++ if q.den = 1 then [] else 47 :: TL.numL q.den
def bopL : Bo → List Nat
  | .add => [32, 43, 32]
  | .sub => [32, 45, 32]
  | _ => [44, 32]
def bopH : Bo → List Nat
  | .mx => [109, 97, 120]
  | .mn => [109, 105, 110]
  | _ => []
def txE : Ex → List Nat
  | .x => [120]
  | .num q => txQ q
  | .ab e => [97, 98, 115, 40] ++ txE e ++ [41]
  | .mul q e => txQ q ++ [42] ++ txE e
  | .call f e => f.cps.toList ++ [40] ++ txE e ++ [41]
  | .bin o a b => bopH o ++ [40] ++ txE a ++ bopL o ++ txE b ++ [41]
theorem numL6 {n : Nat} (h : n < 1000000) : (TL.numL n).length ≤ 6 := TL.numL_len (k := 6) (by decide) (by show n < 10 ^ 6; omega)
theorem txQ_len {q : Rat} (h : F6 q) : (txQ q).length ≤ 14 := by
  have a := numL6 h.1
  have b := numL6 h.2
  unfold txQ intL
  rw [List.length_append]
  have h1 : (if q.num < 0 then 45 :: TL.numL q.num.natAbs else TL.numL q.num.natAbs).length ≤ 7 := by
    split
    · rw [List.length_cons]; omega
    · omega
  have h2 : (if q.den = 1 then [] else 47 :: TL.numL q.den).length ≤ 7 := by
    split
    · simp
    · rw [List.length_cons]; omega
  omega
theorem txE_len : ∀ e : Ex, ExOk NmOk e → (txE e).length + 20 ≤ 20 * 2 ^ exH e
  | .x, _ => by decide
  | .num q, h => by
    have := txQ_len (q := q) h
    show (txQ q).length + 20 ≤ 20 * 2 ^ 1
    omega
  | .ab e, h => by
    have ih := txE_len e h
    unfold txE exH
    rw [Nat.pow_succ, List.length_append, List.length_append]
    simp
    omega
  | .mul q e, h => by
    have ih := txE_len e h.2
    have := txQ_len h.1
    unfold txE exH
    rw [Nat.pow_succ, List.length_append, List.length_append]
    simp
    omega
  | .call f e, h => by
    have ih := txE_len e h.2
    have l8 : f.cps.toList.length ≤ 8 := h.1.2.2.1
    unfold txE exH
    rw [Nat.pow_succ, List.length_append, List.length_append, List.length_append]
    simp at l8 ⊢
    omega
  | .bin o a b, h => by
    have i1 := txE_len a h.1
    have i2 := txE_len b h.2
    have p1 : 2 ^ exH a ≤ 2 ^ max (exH a) (exH b) := Nat.pow_le_pow_right (by decide) (Nat.le_max_left _ _)
    have p2 : 2 ^ exH b ≤ 2 ^ max (exH a) (exH b) := Nat.pow_le_pow_right (by decide) (Nat.le_max_right _ _)
    have h1 : (bopH o).length ≤ 3 := by cases o <;> decide
    have h2 : (bopL o).length ≤ 3 := by cases o <;> decide
    unfold txE exH
    rw [Nat.pow_succ, List.length_append, List.length_append, List.length_append, List.length_append, List.length_append]
    simp
    omega
theorem txE_big {e : Ex} (h : ExOk NmOk e) (eh : exH e ≤ 12) : (txE e).length ≤ 90000 := by
  have a := txE_len e h
  have p : 2 ^ exH e ≤ 2 ^ 12 := Nat.pow_le_pow_right (by decide) eh
  have : 2 ^ 12 = 4096 := by decide
  omega
theorem l_e0 : ("" : Str) = tx [] := by decide +kernel
theorem l_lp : ("(" : Str) = tx [40] := by decide +kernel
theorem l_rp : (")" : Str) = tx [41] := by decide +kernel
theorem l_st : ("*" : Str) = tx [42] := by decide +kernel
theorem l_sl : ("/" : Str) = tx [47] := by decide +kernel
theorem l_pl : (" + " : Str) = tx [32, 43, 32] := by decide +kernel
theorem l_mi : (" - " : Str) = tx [32, 45, 32] := by decide +kernel
theorem l_cs : (", " : Str) = tx [44, 32] := by decide +kernel
theorem l_abp : ("abs(" : Str) = tx [97, 98, 115, 40] := by decide +kernel
theorem l_mx : ("max" : Str) = tx [109, 97, 120] := by decide +kernel
theorem l_mn : ("min" : Str) = tx [109, 105, 110] := by decide +kernel
theorem l_x : ("x" : Str) = tx [120] := by decide +kernel
theorem add_tx {a b : List Nat} (h : a.length + b.length ≤ 1000000) : addD (.str (tx a)) (.str (tx b)) = some (.im (.str (tx (a ++ b)))) := by
  rw [addD_strA (by rw [tx_len, tx_len]; exact h), tx_app]
theorem F6.logs {q : Rat} (h : F6 q) : q.num.natAbs.log2 < 1920 ∧ (q.den : Int).natAbs.log2 < 1920 := ⟨log_small (Nat.lt_trans h.1 (by decide)), log_small (Nat.lt_trans (show (q.den : Int).natAbs < 1000000 from h.2) (by decide))⟩
theorem intL_nat {n : Nat} : intL (n : Int) = TL.numL n := by
  unfold intL
  rw [if_neg (by omega)]
  rfl
theorem eq_one (n : Nat) : eqD (.int (n : Int)) (.int 1) = some (.im (.bl (decide (n = 1)))) := by
  by_cases c : n = 1
  · subst c
    exact eqD_eq (n := 1) rfl (by decide) rfl
  · rw [decide_eq_false c]
    exact eqD_ne (n := 1) rfl rfl (by decide) fun z => c (by have := D.int.inj z; omega)
theorem lftext_ok {q : Rat} (h : F6 q) : m__law_fraction_text [.im (qD q)] = .ok (.im (.str (tx (txQ q)))) [.im (qD q)] := by
  obtain ⟨l1, l2⟩ := h.logs
  have a := gStr_int l1
  have b := gStr_int l2
  rw [tI_tx] at a b
  rw [intL_nat] at b
  have e1 := eq_one q.den
  have n2 := numL6 h.2
  refine Wp.eq (wp_fn ?_)
  have hq : txQ q = intL q.num ++ if q.den = 1 then [] else 47 :: TL.numL q.den := rfl
  have lq := txQ_len h
  by_cases c : q.den = 1
  · rw [if_pos c] at hq
    rw [hq] at lq ⊢
    rw [List.length_append] at lq
    have ad := add_tx (a := intL q.num) (b := []) (by omega)
    rw [List.append_nil] at ad ⊢
    simp [b__law_fraction_text, qD, c, a, l_e0, ad]
  · rw [if_neg c] at hq
    rw [decide_eq_false c] at e1
    rw [hq] at lq ⊢
    rw [List.length_append, List.length_cons] at lq
    have ad1 := add_tx (a := [47]) (b := TL.numL q.den) (by simp; omega)
    have ad2 := add_tx (a := intL q.num) (b := [47] ++ TL.numL q.den) (by simp; omega)
    simp only [List.cons_append, List.nil_append] at ad1 ad2
    simp [b__law_fraction_text, qD, e1, a, b, l_sl, ad1, ad2]
end Kx

/- part -/
set_option Elab.async false
set_option linter.all false
set_option maxRecDepth 100000
set_option maxHeartbeats 8000000
namespace Kx
open PySem DL PyProof.Rows
section
@[local simp] theorem wq0 : eqD (.str "x") (.str "number") = some (.im (.bl false)) := by
  rw [eqD_strA (sok_of (sok_lit _)) (sok_of (sok_lit _))]
  exact congrArg (fun z => some (RV.im (D.bl z))) (by decide +kernel)
@[local simp] theorem wq1 : eqD (.str "x") (.str "x") = some (.im (.bl true)) := by
  rw [eqD_strA (sok_of (sok_lit _)) (sok_of (sok_lit _))]
  exact congrArg (fun z => some (RV.im (D.bl z))) (by decide +kernel)
@[local simp] theorem wq2 : eqD (.str "x") (.str "multiple") = some (.im (.bl false)) := by
  rw [eqD_strA (sok_of (sok_lit _)) (sok_of (sok_lit _))]
  exact congrArg (fun z => some (RV.im (D.bl z))) (by decide +kernel)
@[local simp] theorem wq3 : eqD (.str "x") (.str "call") = some (.im (.bl false)) := by
  rw [eqD_strA (sok_of (sok_lit _)) (sok_of (sok_lit _))]
  exact congrArg (fun z => some (RV.im (D.bl z))) (by decide +kernel)
@[local simp] theorem wq4 : eqD (.str "x") (.str "abs") = some (.im (.bl false)) := by
  rw [eqD_strA (sok_of (sok_lit _)) (sok_of (sok_lit _))]
  exact congrArg (fun z => some (RV.im (D.bl z))) (by decide +kernel)
@[local simp] theorem wq5 : eqD (.str "x") (.str "add") = some (.im (.bl false)) := by
  rw [eqD_strA (sok_of (sok_lit _)) (sok_of (sok_lit _))]
  exact congrArg (fun z => some (RV.im (D.bl z))) (by decide +kernel)
@[local simp] theorem wq6 : eqD (.str "x") (.str "subtract") = some (.im (.bl false)) := by
  rw [eqD_strA (sok_of (sok_lit _)) (sok_of (sok_lit _))]
  exact congrArg (fun z => some (RV.im (D.bl z))) (by decide +kernel)
@[local simp] theorem wq7 : eqD (.str "number") (.str "number") = some (.im (.bl true)) := by
  rw [eqD_strA (sok_of (sok_lit _)) (sok_of (sok_lit _))]
  exact congrArg (fun z => some (RV.im (D.bl z))) (by decide +kernel)
@[local simp] theorem wq8 : eqD (.str "number") (.str "x") = some (.im (.bl false)) := by
  rw [eqD_strA (sok_of (sok_lit _)) (sok_of (sok_lit _))]
  exact congrArg (fun z => some (RV.im (D.bl z))) (by decide +kernel)
@[local simp] theorem wq9 : eqD (.str "number") (.str "multiple") = some (.im (.bl false)) := by
  rw [eqD_strA (sok_of (sok_lit _)) (sok_of (sok_lit _))]
  exact congrArg (fun z => some (RV.im (D.bl z))) (by decide +kernel)
@[local simp] theorem wq10 : eqD (.str "number") (.str "call") = some (.im (.bl false)) := by
  rw [eqD_strA (sok_of (sok_lit _)) (sok_of (sok_lit _))]
  exact congrArg (fun z => some (RV.im (D.bl z))) (by decide +kernel)
@[local simp] theorem wq11 : eqD (.str "number") (.str "abs") = some (.im (.bl false)) := by
  rw [eqD_strA (sok_of (sok_lit _)) (sok_of (sok_lit _))]
  exact congrArg (fun z => some (RV.im (D.bl z))) (by decide +kernel)
@[local simp] theorem wq12 : eqD (.str "number") (.str "add") = some (.im (.bl false)) := by
  rw [eqD_strA (sok_of (sok_lit _)) (sok_of (sok_lit _))]
  exact congrArg (fun z => some (RV.im (D.bl z))) (by decide +kernel)
@[local simp] theorem wq13 : eqD (.str "number") (.str "subtract") = some (.im (.bl false)) := by
  rw [eqD_strA (sok_of (sok_lit _)) (sok_of (sok_lit _))]
  exact congrArg (fun z => some (RV.im (D.bl z))) (by decide +kernel)
@[local simp] theorem wq14 : eqD (.str "abs") (.str "number") = some (.im (.bl false)) := by
  rw [eqD_strA (sok_of (sok_lit _)) (sok_of (sok_lit _))]
  exact congrArg (fun z => some (RV.im (D.bl z))) (by decide +kernel)
@[local simp] theorem wq15 : eqD (.str "abs") (.str "x") = some (.im (.bl false)) := by
  rw [eqD_strA (sok_of (sok_lit _)) (sok_of (sok_lit _))]
  exact congrArg (fun z => some (RV.im (D.bl z))) (by decide +kernel)
@[local simp] theorem wq16 : eqD (.str "abs") (.str "multiple") = some (.im (.bl false)) := by
  rw [eqD_strA (sok_of (sok_lit _)) (sok_of (sok_lit _))]
  exact congrArg (fun z => some (RV.im (D.bl z))) (by decide +kernel)
@[local simp] theorem wq17 : eqD (.str "abs") (.str "call") = some (.im (.bl false)) := by
  rw [eqD_strA (sok_of (sok_lit _)) (sok_of (sok_lit _))]
  exact congrArg (fun z => some (RV.im (D.bl z))) (by decide +kernel)
@[local simp] theorem wq18 : eqD (.str "abs") (.str "abs") = some (.im (.bl true)) := by
  rw [eqD_strA (sok_of (sok_lit _)) (sok_of (sok_lit _))]
  exact congrArg (fun z => some (RV.im (D.bl z))) (by decide +kernel)
@[local simp] theorem wq19 : eqD (.str "abs") (.str "add") = some (.im (.bl false)) := by
  rw [eqD_strA (sok_of (sok_lit _)) (sok_of (sok_lit _))]
  exact congrArg (fun z => some (RV.im (D.bl z))) (by decide +kernel)
@[local simp] theorem wq20 : eqD (.str "abs") (.str "subtract") = some (.im (.bl false)) := by
  rw [eqD_strA (sok_of (sok_lit _)) (sok_of (sok_lit _))]
  exact congrArg (fun z => some (RV.im (D.bl z))) (by decide +kernel)
@[local simp] theorem wq21 : eqD (.str "multiple") (.str "number") = some (.im (.bl false)) := by
  rw [eqD_strA (sok_of (sok_lit _)) (sok_of (sok_lit _))]
  exact congrArg (fun z => some (RV.im (D.bl z))) (by decide +kernel)
@[local simp] theorem wq22 : eqD (.str "multiple") (.str "x") = some (.im (.bl false)) := by
  rw [eqD_strA (sok_of (sok_lit _)) (sok_of (sok_lit _))]
  exact congrArg (fun z => some (RV.im (D.bl z))) (by decide +kernel)
@[local simp] theorem wq23 : eqD (.str "multiple") (.str "multiple") = some (.im (.bl true)) := by
  rw [eqD_strA (sok_of (sok_lit _)) (sok_of (sok_lit _))]
  exact congrArg (fun z => some (RV.im (D.bl z))) (by decide +kernel)
@[local simp] theorem wq24 : eqD (.str "multiple") (.str "call") = some (.im (.bl false)) := by
  rw [eqD_strA (sok_of (sok_lit _)) (sok_of (sok_lit _))]
  exact congrArg (fun z => some (RV.im (D.bl z))) (by decide +kernel)
@[local simp] theorem wq25 : eqD (.str "multiple") (.str "abs") = some (.im (.bl false)) := by
  rw [eqD_strA (sok_of (sok_lit _)) (sok_of (sok_lit _))]
  exact congrArg (fun z => some (RV.im (D.bl z))) (by decide +kernel)
@[local simp] theorem wq26 : eqD (.str "multiple") (.str "add") = some (.im (.bl false)) := by
  rw [eqD_strA (sok_of (sok_lit _)) (sok_of (sok_lit _))]
  exact congrArg (fun z => some (RV.im (D.bl z))) (by decide +kernel)
@[local simp] theorem wq27 : eqD (.str "multiple") (.str "subtract") = some (.im (.bl false)) := by
  rw [eqD_strA (sok_of (sok_lit _)) (sok_of (sok_lit _))]
  exact congrArg (fun z => some (RV.im (D.bl z))) (by decide +kernel)
@[local simp] theorem wq28 : eqD (.str "call") (.str "number") = some (.im (.bl false)) := by
  rw [eqD_strA (sok_of (sok_lit _)) (sok_of (sok_lit _))]
  exact congrArg (fun z => some (RV.im (D.bl z))) (by decide +kernel)
@[local simp] theorem wq29 : eqD (.str "call") (.str "x") = some (.im (.bl false)) := by
  rw [eqD_strA (sok_of (sok_lit _)) (sok_of (sok_lit _))]
  exact congrArg (fun z => some (RV.im (D.bl z))) (by decide +kernel)
@[local simp] theorem wq30 : eqD (.str "call") (.str "multiple") = some (.im (.bl false)) := by
  rw [eqD_strA (sok_of (sok_lit _)) (sok_of (sok_lit _))]
  exact congrArg (fun z => some (RV.im (D.bl z))) (by decide +kernel)
@[local simp] theorem wq31 : eqD (.str "call") (.str "call") = some (.im (.bl true)) := by
  rw [eqD_strA (sok_of (sok_lit _)) (sok_of (sok_lit _))]
  exact congrArg (fun z => some (RV.im (D.bl z))) (by decide +kernel)
@[local simp] theorem wq32 : eqD (.str "call") (.str "abs") = some (.im (.bl false)) := by
  rw [eqD_strA (sok_of (sok_lit _)) (sok_of (sok_lit _))]
  exact congrArg (fun z => some (RV.im (D.bl z))) (by decide +kernel)
@[local simp] theorem wq33 : eqD (.str "call") (.str "add") = some (.im (.bl false)) := by
  rw [eqD_strA (sok_of (sok_lit _)) (sok_of (sok_lit _))]
  exact congrArg (fun z => some (RV.im (D.bl z))) (by decide +kernel)
@[local simp] theorem wq34 : eqD (.str "call") (.str "subtract") = some (.im (.bl false)) := by
  rw [eqD_strA (sok_of (sok_lit _)) (sok_of (sok_lit _))]
  exact congrArg (fun z => some (RV.im (D.bl z))) (by decide +kernel)
@[local simp] theorem wq35 : eqD (.str "add") (.str "number") = some (.im (.bl false)) := by
  rw [eqD_strA (sok_of (sok_lit _)) (sok_of (sok_lit _))]
  exact congrArg (fun z => some (RV.im (D.bl z))) (by decide +kernel)
@[local simp] theorem wq36 : eqD (.str "add") (.str "x") = some (.im (.bl false)) := by
  rw [eqD_strA (sok_of (sok_lit _)) (sok_of (sok_lit _))]
  exact congrArg (fun z => some (RV.im (D.bl z))) (by decide +kernel)
@[local simp] theorem wq37 : eqD (.str "add") (.str "multiple") = some (.im (.bl false)) := by
  rw [eqD_strA (sok_of (sok_lit _)) (sok_of (sok_lit _))]
  exact congrArg (fun z => some (RV.im (D.bl z))) (by decide +kernel)
@[local simp] theorem wq38 : eqD (.str "add") (.str "call") = some (.im (.bl false)) := by
  rw [eqD_strA (sok_of (sok_lit _)) (sok_of (sok_lit _))]
  exact congrArg (fun z => some (RV.im (D.bl z))) (by decide +kernel)
@[local simp] theorem wq39 : eqD (.str "add") (.str "abs") = some (.im (.bl false)) := by
  rw [eqD_strA (sok_of (sok_lit _)) (sok_of (sok_lit _))]
  exact congrArg (fun z => some (RV.im (D.bl z))) (by decide +kernel)
@[local simp] theorem wq40 : eqD (.str "add") (.str "add") = some (.im (.bl true)) := by
  rw [eqD_strA (sok_of (sok_lit _)) (sok_of (sok_lit _))]
  exact congrArg (fun z => some (RV.im (D.bl z))) (by decide +kernel)
@[local simp] theorem wq41 : eqD (.str "add") (.str "subtract") = some (.im (.bl false)) := by
  rw [eqD_strA (sok_of (sok_lit _)) (sok_of (sok_lit _))]
  exact congrArg (fun z => some (RV.im (D.bl z))) (by decide +kernel)
@[local simp] theorem wq42 : eqD (.str "subtract") (.str "number") = some (.im (.bl false)) := by
  rw [eqD_strA (sok_of (sok_lit _)) (sok_of (sok_lit _))]
  exact congrArg (fun z => some (RV.im (D.bl z))) (by decide +kernel)
@[local simp] theorem wq43 : eqD (.str "subtract") (.str "x") = some (.im (.bl false)) := by
  rw [eqD_strA (sok_of (sok_lit _)) (sok_of (sok_lit _))]
  exact congrArg (fun z => some (RV.im (D.bl z))) (by decide +kernel)
@[local simp] theorem wq44 : eqD (.str "subtract") (.str "multiple") = some (.im (.bl false)) := by
  rw [eqD_strA (sok_of (sok_lit _)) (sok_of (sok_lit _))]
  exact congrArg (fun z => some (RV.im (D.bl z))) (by decide +kernel)
@[local simp] theorem wq45 : eqD (.str "subtract") (.str "call") = some (.im (.bl false)) := by
  rw [eqD_strA (sok_of (sok_lit _)) (sok_of (sok_lit _))]
  exact congrArg (fun z => some (RV.im (D.bl z))) (by decide +kernel)
@[local simp] theorem wq46 : eqD (.str "subtract") (.str "abs") = some (.im (.bl false)) := by
  rw [eqD_strA (sok_of (sok_lit _)) (sok_of (sok_lit _))]
  exact congrArg (fun z => some (RV.im (D.bl z))) (by decide +kernel)
@[local simp] theorem wq47 : eqD (.str "subtract") (.str "add") = some (.im (.bl false)) := by
  rw [eqD_strA (sok_of (sok_lit _)) (sok_of (sok_lit _))]
  exact congrArg (fun z => some (RV.im (D.bl z))) (by decide +kernel)
@[local simp] theorem wq48 : eqD (.str "subtract") (.str "subtract") = some (.im (.bl true)) := by
  rw [eqD_strA (sok_of (sok_lit _)) (sok_of (sok_lit _))]
  exact congrArg (fun z => some (RV.im (D.bl z))) (by decide +kernel)
@[local simp] theorem wq49 : eqD (.str "max") (.str "number") = some (.im (.bl false)) := by
  rw [eqD_strA (sok_of (sok_lit _)) (sok_of (sok_lit _))]
  exact congrArg (fun z => some (RV.im (D.bl z))) (by decide +kernel)
@[local simp] theorem wq50 : eqD (.str "max") (.str "x") = some (.im (.bl false)) := by
  rw [eqD_strA (sok_of (sok_lit _)) (sok_of (sok_lit _))]
  exact congrArg (fun z => some (RV.im (D.bl z))) (by decide +kernel)
@[local simp] theorem wq51 : eqD (.str "max") (.str "multiple") = some (.im (.bl false)) := by
  rw [eqD_strA (sok_of (sok_lit _)) (sok_of (sok_lit _))]
  exact congrArg (fun z => some (RV.im (D.bl z))) (by decide +kernel)
@[local simp] theorem wq52 : eqD (.str "max") (.str "call") = some (.im (.bl false)) := by
  rw [eqD_strA (sok_of (sok_lit _)) (sok_of (sok_lit _))]
  exact congrArg (fun z => some (RV.im (D.bl z))) (by decide +kernel)
@[local simp] theorem wq53 : eqD (.str "max") (.str "abs") = some (.im (.bl false)) := by
  rw [eqD_strA (sok_of (sok_lit _)) (sok_of (sok_lit _))]
  exact congrArg (fun z => some (RV.im (D.bl z))) (by decide +kernel)
@[local simp] theorem wq54 : eqD (.str "max") (.str "add") = some (.im (.bl false)) := by
  rw [eqD_strA (sok_of (sok_lit _)) (sok_of (sok_lit _))]
  exact congrArg (fun z => some (RV.im (D.bl z))) (by decide +kernel)
@[local simp] theorem wq55 : eqD (.str "max") (.str "subtract") = some (.im (.bl false)) := by
  rw [eqD_strA (sok_of (sok_lit _)) (sok_of (sok_lit _))]
  exact congrArg (fun z => some (RV.im (D.bl z))) (by decide +kernel)
@[local simp] theorem wq56 : eqD (.str "min") (.str "number") = some (.im (.bl false)) := by
  rw [eqD_strA (sok_of (sok_lit _)) (sok_of (sok_lit _))]
  exact congrArg (fun z => some (RV.im (D.bl z))) (by decide +kernel)
@[local simp] theorem wq57 : eqD (.str "min") (.str "x") = some (.im (.bl false)) := by
  rw [eqD_strA (sok_of (sok_lit _)) (sok_of (sok_lit _))]
  exact congrArg (fun z => some (RV.im (D.bl z))) (by decide +kernel)
@[local simp] theorem wq58 : eqD (.str "min") (.str "multiple") = some (.im (.bl false)) := by
  rw [eqD_strA (sok_of (sok_lit _)) (sok_of (sok_lit _))]
  exact congrArg (fun z => some (RV.im (D.bl z))) (by decide +kernel)
@[local simp] theorem wq59 : eqD (.str "min") (.str "call") = some (.im (.bl false)) := by
  rw [eqD_strA (sok_of (sok_lit _)) (sok_of (sok_lit _))]
  exact congrArg (fun z => some (RV.im (D.bl z))) (by decide +kernel)
@[local simp] theorem wq60 : eqD (.str "min") (.str "abs") = some (.im (.bl false)) := by
  rw [eqD_strA (sok_of (sok_lit _)) (sok_of (sok_lit _))]
  exact congrArg (fun z => some (RV.im (D.bl z))) (by decide +kernel)
@[local simp] theorem wq61 : eqD (.str "min") (.str "add") = some (.im (.bl false)) := by
  rw [eqD_strA (sok_of (sok_lit _)) (sok_of (sok_lit _))]
  exact congrArg (fun z => some (RV.im (D.bl z))) (by decide +kernel)
@[local simp] theorem wq62 : eqD (.str "min") (.str "subtract") = some (.im (.bl false)) := by
  rw [eqD_strA (sok_of (sok_lit _)) (sok_of (sok_lit _))]
  exact congrArg (fun z => some (RV.im (D.bl z))) (by decide +kernel)
@[local simp] theorem wr0 : inD false (.str "add") (.tup [.str "max", .str "min"]) = some (.im (.bl false)) := by rfl
@[local simp] theorem wr1 : inD false (.str "subtract") (.tup [.str "max", .str "min"]) = some (.im (.bl false)) := by rfl
@[local simp] theorem wr2 : inD false (.str "max") (.tup [.str "max", .str "min"]) = some (.im (.bl true)) := by rfl
@[local simp] theorem wr3 : inD false (.str "min") (.tup [.str "max", .str "min"]) = some (.im (.bl true)) := by rfl
@[local simp] theorem wat2 {a b : D} : L2.atI [a, b] (-1) = some b := rfl
@[local simp] theorem wat3 {a b c : D} : L2.atI [a, b, c] (-1) = some c := rfl
theorem ltext_ok : ∀ (n : Nat) (e : Ex), ExOk NmOk e → exH e ≤ n → exH e ≤ 12 → m__law_text n [.im (exD e)] = .ok (.im (.str (tx (txE e)))) [.im (exD e)]
  | 0, e, _, h, _ => by have := exH_pos e; omega
  | n + 1, e, ok, h, h12 => by
    have es : m__law_text (n + 1) = mFn n__law_text.length (b__law_text (m__law_text n)) := rfl
    have big := txE_big ok h12
    rw [es]
    refine Wp.eq (wp_fn ?_)
    cases e with
    | x =>
      simp [b__law_text, exD, txE, ← l_x]
    | num q =>
      have t := lftext_ok (q := q) ok
      simp [b__law_text, exD, t, txE]
    | ab e =>
      have ih := ltext_ok n e ok (by unfold exH at h; omega) (by unfold exH at h12; omega)
      unfold txE at big ⊢
      simp only [List.length_append, List.length_cons, List.length_nil] at big
      have a1 := add_tx (a := [97, 98, 115, 40]) (b := txE e) (by simp; omega)
      have a2 := add_tx (a := [97, 98, 115, 40] ++ txE e) (b := [41]) (by simp; omega)
      rw [← l_abp] at a1
      rw [← l_rp] at a2
      simp only [List.cons_append, List.nil_append] at a1 a2
      simp [b__law_text, exD, ih, a1, a2]
    | mul q e =>
      have ih := ltext_ok n e ok.2 (by unfold exH at h; omega) (by unfold exH at h12; omega)
      have t := lftext_ok (q := q) ok.1
      unfold txE at big ⊢
      simp only [List.length_append, List.length_cons, List.length_nil] at big
      have a1 := add_tx (a := txQ q) (b := [42]) (by simp; omega)
      have a2 := add_tx (a := txQ q ++ [42]) (b := txE e) (by simp; omega)
      rw [← l_st] at a1
      simp [b__law_text, exD, ih, t, a1, a2, -List.append_assoc]
    | call f e =>
      have ih := ltext_ok n e ok.2 (by unfold exH at h; omega) (by unfold exH at h12; omega)
      unfold txE at big ⊢
      clear ok
      obtain ⟨l, rfl⟩ : ∃ l, f = tx l := ⟨_, tx_of f⟩
      rw [tx_cps] at big ⊢
      simp only [List.length_append, List.length_cons, List.length_nil] at big
      have a1 := add_tx (a := l) (b := [40]) (by simp; omega)
      have a2 := add_tx (a := l ++ [40]) (b := txE e) (by simp; omega)
      have a3 := add_tx (a := l ++ [40] ++ txE e) (b := [41]) (by simp; omega)
      rw [← l_lp] at a1
      rw [← l_rp] at a3
      simp [b__law_text, exD, ih, a1, a2, a3, -List.append_assoc]
    | bin o a b =>
      have i1 := ltext_ok n a ok.1 (by unfold exH at h; omega) (by unfold exH at h12; omega)
      have i2 := ltext_ok n b ok.2 (by unfold exH at h; omega) (by unfold exH at h12; omega)
      unfold txE at big ⊢
      simp only [List.length_append, List.length_cons, List.length_nil] at big
      have hl : (bopH o).length ≤ 3 ∧ (bopL o).length ≤ 3 := by cases o <;> decide
      have a0 := add_tx (a := bopH o) (b := [40]) (by simp; omega)
      have a1 := add_tx (a := bopH o ++ [40]) (b := txE a) (by simp; omega)
      have a2 := add_tx (a := bopH o ++ [40] ++ txE a) (b := bopL o) (by simp; omega)
      have a3 := add_tx (a := bopH o ++ [40] ++ txE a ++ bopL o) (b := txE b) (by simp; omega)
      have a4 := add_tx (a := bopH o ++ [40] ++ txE a ++ bopL o ++ txE b) (b := [41]) (by simp; omega)
      rw [← l_rp] at a4
      have eH : ∀ y : Str, y = tx (bopH o) → addD (.str y) (.str "(") = some (.im (.str (tx (bopH o ++ [40])))) := fun y hy => by rw [hy, l_lp]; exact a0
      have eP : bopH o = [] → ("(" : Str) = tx (bopH o ++ [40]) := fun z => by rw [z]; exact l_lp
      have eL : ∀ y : Str, y = tx (bopL o) → addD (.str (tx (bopH o ++ [40] ++ txE a))) (.str y) = some (.im (.str (tx (bopH o ++ [40] ++ txE a ++ bopL o)))) := fun y hy => by rw [hy]; exact a2
      generalize hL1 : bopH o ++ [40] = L1 at *
      generalize L1 ++ txE a = L2 at *
      generalize hL3 : L2 ++ bopL o = L3 at *
      generalize L3 ++ txE b = L4 at *
      generalize L4 ++ [41] = L5 at *
      clear a0 a2
      cases o with
      | add =>
        have b1 := a1
        rw [← eP rfl] at b1
        have b2 := eL _ l_pl
        simp [b__law_text, exD, boS, i1, i2, b1, b2, a3, a4]
      | sub =>
        have b1 := a1
        rw [← eP rfl] at b1
        have b2 := eL _ l_mi
        simp [b__law_text, exD, boS, i1, i2, b1, b2, a3, a4]
      | mx =>
        have b1 := eH _ l_mx
        have b2 := eL _ l_cs
        simp [b__law_text, exD, boS, i1, i2, a1, b1, b2, a3, a4]
      | mn =>
        have b1 := eH _ l_mn
        have b2 := eL _ l_cs
        simp [b__law_text, exD, boS, i1, i2, a1, b1, b2, a3, a4]
end
end Kx

/- part -/
set_option Elab.async false
set_option linter.all false
set_option maxRecDepth 100000
set_option maxHeartbeats 8000000
namespace Kx
open PySem DL PyProof.Rows
structure Rd (cs : List Nat) (p : Nat) (l : List Nat) (q : Nat) : Prop where
  e : cs.drop p = l ++ cs.drop q
  n : q = p + l.length
theorem dr_at {cs r : List Nat} {p c : Nat} (h : cs.drop p = c :: r) : cs[p]? = some c ∧ cs.drop (p + 1) = r := by
  have a : (cs.drop p)[0]? = some c := by rw [h]; rfl
  rw [List.getElem?_drop] at a
  refine ⟨a, ?_⟩
  rw [← List.drop_drop, h]
  rfl
section
variable {cs a b l : List Nat} {p q c i : Nat}
theorem Rd.split (h : Rd cs p (a ++ b) q) : Rd cs p a (p + a.length) ∧ Rd cs (p + a.length) b q := by
  have e := h.e
  rw [List.append_assoc] at e
  have e2 : cs.drop (p + a.length) = b ++ cs.drop q := by
    rw [← List.drop_drop, e, List.drop_left]
  refine ⟨⟨by rw [e2]; exact e, rfl⟩, e2, ?_⟩
  have := h.n
  rw [List.length_append] at this
  omega
theorem Rd.hd (h : Rd cs p (c :: l) q) : cs[p]? = some c ∧ Rd cs (p + 1) l q := by
  obtain ⟨x, y⟩ := dr_at h.e
  refine ⟨x, y, ?_⟩
  have := h.n
  rw [List.length_cons] at this
  omega
theorem Rd.slc (h : Rd cs p l q) : slc cs p q = l := by
  unfold Kx.slc
  rw [h.e, h.n, show p + l.length - p = l.length by omega, List.take_left]
theorem Rd.get (h : Rd cs p l q) (hi : i < l.length) : cs[p + i]? = l[i]? := by
  rw [← List.getElem?_drop, h.e, List.getElem?_append_left hi]
theorem Rd.exS : ∀ {w : List Nat} {p q : Nat}, Rd cs p w q → exS cs p w = .ok () q
  | [], p, q, h => by
    have n : q = p := h.n
    rw [n]
    rfl
  | c :: w, p, q, h => by
    obtain ⟨x, y⟩ := h.hd
    rw [exS_cons, if_pos x]
    exact y.exS
structure Dgs (l : List Nat) : Prop where
  ne : l ≠ []
  six : l.length ≤ 6
  dig : NumText.AllDigits l
  lead : l.head? = some 48 → l = [48]
theorem numL_head {n : Nat} (h : 0 < n) : (TL.numL n).head? ≠ some 48 := by
  induction n using Nat.strongRecOn with
  | _ n ih =>
    by_cases c : n < 10
    · rw [TL.numL_lt c]
      intro z
      have z : 48 + n = 48 := Option.some.inj z
      omega
    · rw [TL.numL_step (by omega)]
      have i := ih (n / 10) (by omega) (by omega)
      have ne := TL.numL_ne (n / 10)
      cases e : TL.numL (n / 10) with
      | nil => exact (ne e).elim
      | cons x y =>
        rw [e] at i
        exact i
theorem numL_dgs {n : Nat} (h : n < 1000000) : Dgs (TL.numL n) := by
  refine ⟨TL.numL_ne n, numL6 h, TL.numL_digits n, fun z => ?_⟩
  by_cases c : n = 0
  · subst c
    rw [TL.numL_lt (by decide)]
  · exact (numL_head (by omega) z).elim
theorem dgt_of {c : Nat} (h : 48 ≤ c ∧ c ≤ 57) : dgt c = true := by
  unfold dgt
  rw [decide_eq_true h.1, decide_eq_true h.2]
  rfl
theorem Rd.nmE (h : Rd cs p l q) (d : Dgs l) (hs : isD cs[q]? = false) : ∀ (k i : Nat), i ≤ l.length → l.length - i ≤ k → nmE cs p k (p + i) = q
  | 0, i, h1, h2 => by
    have := h.n
    show p + i = q
    omega
  | k + 1, i, h1, h2 => by
    have n := h.n
    rw [nmE_succ]
    by_cases c : i = l.length
    · rw [show p + i = q by omega, if_neg (fun z => by rw [hs] at z; exact absurd z.1 (by decide))]
    · have lt : i < l.length := by omega
      have g := h.get lt
      rw [List.getElem?_eq_getElem lt] at g
      have dd : isD cs[p + i]? = true := by
        rw [g]
        exact dgt_of (d.dig _ (List.getElem_mem lt))
      have sl : Kx.slc cs p (p + i) = l.take i := by
        unfold Kx.slc
        rw [h.e, show p + i - p = i by omega, List.take_append_of_le_length h1]
      rw [if_pos ⟨dd, fun z => by
        rw [sl] at z
        have li : (l.take i).length = 1 := by rw [z]; rfl
        rw [List.length_take] at li
        have i1 : i = 1 := by omega
        subst i1
        cases l with
        | nil => simp at lt
        | cons x y =>
          have z : [x] = [48] := z
          have e := d.lead (by rw [List.head?_cons]; exact congrArg some (List.cons.inj z).1)
          rw [e] at lt
          simp at lt⟩]
      exact Rd.nmE h d hs k (i + 1) (by omega) (by omega)
theorem Rd.nmS (h : Rd cs p l q) (d : Dgs l) (hs : isD cs[q]? = false) : nmS cs p = .ok () q := by
  have e := Rd.nmE h d hs 6 0 (by omega) (by have := d.six; omega)
  rw [Nat.add_zero] at e
  have n := h.n
  have lp : l.length ≠ 0 := fun z => d.ne (List.length_eq_zero_iff.mp z)
  unfold Kx.nmS
  rw [e, if_neg (fun z => by
    rcases z with z | z
    · omega
    · rw [hs] at z; cases z)]
def EnN (o : Option Nat) : Prop := isD o = false ∧ o ≠ some 47
theorem frT_one {e : Nat} (hs : cs[e]? ≠ some 47) : frT cs p e = .ok (txV (Kx.slc cs p e), 1) e := by
  unfold frT
  rw [if_pos hs]
theorem frT_two {n e l : Nat} (a : Rd cs e (47 :: TL.numL n) l) (h2 : 2 ≤ n) (h6 : n < 1000000) (hs : isD cs[l]? = false) {x : Int} (hx : txV (Kx.slc cs p e) = x) (g : Nat.gcd x.natAbs n = 1) : frT cs p e = .ok (x, (n : Int)) l := by
  obtain ⟨y1, y2⟩ := a.hd
  have t : txV (Kx.slc cs (e + 1) l) = (n : Int) := by
    rw [y2.slc, txV_dig (TL.numL_digits n), TL.numL_val]
  unfold frT
  rw [if_neg (fun z => z y1), y2.nmS (numL_dgs h6) hs, Sc.thn_ok, t, hx, if_neg (fun z => by
    rcases z with z | z
    · omega
    · exact z g)]
theorem Rd.frS {r : Rat} (h : Rd cs p (txQ r) q) (f6 : F6 r) (hs : EnN cs[q]?) : frS cs p = .ok (r.num, (r.den : Int)) q := by
  have red : Nat.gcd r.num.natAbs r.den = 1 := r.reduced
  have dp := r.den_pos
  unfold txQ at h
  obtain ⟨h1, h2⟩ := h.split
  obtain ⟨m, hm⟩ : ∃ m, p + (intL r.num).length = m := ⟨_, rfl⟩
  rw [hm] at h1 h2
  have mid : isD cs[m]? = false := by
    by_cases c : r.den = 1
    · rw [if_pos c] at h2
      have n : q = m := h2.n
      rw [← n]
      exact hs.1
    · rw [if_neg c] at h2
      rw [h2.hd.1]
      rfl
  have fin : txV (Kx.slc cs p m) = r.num → frT cs p m = .ok (r.num, (r.den : Int)) q := fun hx => by
    by_cases c : r.den = 1
    · rw [if_pos c] at h2
      have n : q = m := h2.n
      subst n
      rw [frT_one hs.2, hx, c]
      rfl
    · rw [if_neg c] at h2
      exact frT_two h2 (by omega) f6.2 hs.1 hx red
  unfold intL at h1
  unfold Kx.frS
  by_cases neg : r.num < 0
  · rw [if_pos neg] at h1
    obtain ⟨y1, y2⟩ := h1.hd
    have pos : 0 < r.num.natAbs := by omega
    have nz : cs[p + 1]? ≠ some 48 := fun z => by
      have g := y2.get (i := 0) (List.length_pos_iff.mpr (TL.numL_ne _))
      rw [Nat.add_zero, z] at g
      have nh := numL_head pos
      rw [← List.head?_eq_getElem?] at g
      exact nh g.symm
    rw [if_pos y1, if_neg nz, y2.nmS (numL_dgs f6.1) mid, Sc.thn_ok]
    refine fin ?_
    rw [h1.slc]
    show -((NumText.digitsVal (TL.numL r.num.natAbs) : Nat) : Int) = _
    rw [TL.numL_val]
    omega
  · rw [if_neg neg] at h1
    have n45 : cs[p]? ≠ some 45 := fun z => by
      have lp := List.length_pos_iff.mpr (TL.numL_ne r.num.natAbs)
      have g := h1.get (i := 0) lp
      rw [Nat.add_zero, z, List.getElem?_eq_getElem lp] at g
      have := TL.numL_digits r.num.natAbs _ (List.getElem_mem lp)
      have g := Option.some.inj g
      omega
    rw [if_neg n45, h1.nmS (numL_dgs f6.1) mid, Sc.thn_ok]
    refine fin ?_
    rw [h1.slc, txV_dig (TL.numL_digits _), TL.numL_val]
    omega
end
end Kx

/- part -/
set_option Elab.async false
set_option linter.all false
set_option maxRecDepth 100000
set_option maxHeartbeats 8000000
namespace Kx
open PySem DL PyProof.Rows
def StO (o : Option Nat) : Prop := o = none ∨ o = some 41 ∨ o = some 32 ∨ o = some 44
theorem StO.nl {o : Option Nat} (h : StO o) : isL o = false := by
  rcases h with rfl | rfl | rfl | rfl
  · rfl
  all_goals decide
theorem StO.nst {o : Option Nat} (h : StO o) : o ≠ some 42 := by
  rcases h with rfl | rfl | rfl | rfl <;> simp
section
variable {cs : List Nat}
end
theorem numL_low {n : Nat} : ∀ c ∈ TL.numL n, c < 128 := fun c hc => by
  have := TL.numL_digits n c hc
  omega
theorem txQ_low (q : Rat) : ∀ c ∈ txQ q, c < 128 := fun c hc => by
  unfold txQ intL at hc
  rcases List.mem_append.mp hc with hc | hc
  · split at hc
    · rcases List.mem_cons.mp hc with rfl | hc
      · decide
      · exact numL_low c hc
    · exact numL_low c hc
  · split at hc
    · cases hc
    · rcases List.mem_cons.mp hc with rfl | hc
      · decide
      · exact numL_low c hc
theorem txE_low : ∀ e : Ex, ExOk NmOk e → ∀ c ∈ txE e, c < 128
  | .x, _ => by decide
  | .num q, _ => txQ_low q
  | .ab e, ok => fun c hc => by
    have ih := txE_low e ok
    have hc : c ∈ [97, 98, 115, 40] ++ txE e ++ [41] := hc
    rcases List.mem_append.mp hc with hc | hc
    · rcases List.mem_append.mp hc with hc | hc
      · exact (show ∀ c ∈ [97, 98, 115, 40], c < 128 from by decide) c hc
      · exact ih c hc
    · exact (show ∀ c ∈ [41], c < 128 from by decide) c hc
  | .mul q e, ok => fun c hc => by
    have ih := txE_low e ok.2
    have hc : c ∈ txQ q ++ [42] ++ txE e := hc
    rcases List.mem_append.mp hc with hc | hc
    · rcases List.mem_append.mp hc with hc | hc
      · exact txQ_low q c hc
      · exact (show ∀ c ∈ [42], c < 128 from by decide) c hc
    · exact ih c hc
  | .call f e, ok => fun c hc => by
    have ih := txE_low e ok.2
    have hc : c ∈ f.cps.toList ++ [40] ++ txE e ++ [41] := hc
    rcases List.mem_append.mp hc with hc | hc
    · rcases List.mem_append.mp hc with hc | hc
      · rcases List.mem_append.mp hc with hc | hc
        · have l := ok.1.1 c hc
          unfold lowc at l
          simp at l
          omega
        · exact (show ∀ c ∈ [40], c < 128 from by decide) c hc
      · exact ih c hc
    · exact (show ∀ c ∈ [41], c < 128 from by decide) c hc
  | .bin o a b, ok => fun c hc => by
    have i1 := txE_low a ok.1
    have i2 := txE_low b ok.2
    have hH : ∀ c ∈ bopH o, c < 128 := by cases o <;> decide
    have hL : ∀ c ∈ bopL o, c < 128 := by cases o <;> decide
    have hc : c ∈ bopH o ++ [40] ++ txE a ++ bopL o ++ txE b ++ [41] := hc
    rcases List.mem_append.mp hc with hc | hc
    · rcases List.mem_append.mp hc with hc | hc
      · rcases List.mem_append.mp hc with hc | hc
        · rcases List.mem_append.mp hc with hc | hc
          · rcases List.mem_append.mp hc with hc | hc
            · exact hH c hc
            · exact (show ∀ c ∈ [40], c < 128 from by decide) c hc
          · exact i1 c hc
        · exact hL c hc
      · exact i2 c hc
    · exact (show ∀ c ∈ [41], c < 128 from by decide) c hc
end Kx

/- part -/
set_option Elab.async false
set_option linter.all false
set_option maxRecDepth 100000
set_option maxHeartbeats 8000000
namespace Kx
open PySem DL PyProof.Rows
def lawD : Sc D → D
  | .ok d p => .tup [.int (p : Int), d]
  | .no p => .tup [.int (p : Int), .non]
def lawF : Sc Unit → D
  | .ok _ p => .tup [.int (p : Int), .bl true]
  | .no p => .tup [.int (p : Int), .bl false]
def lawV : Sc (Int × Int) → D
  | .ok v p => .tup [.int (p : Int), numD v]
  | .no p => .tup [.int (p : Int), .non]
section
variable {cs : List Nat} (h : Cs cs)
include h
theorem lat_ok (p : Nat) : m__law_at [.im (.str (tx cs)), .im (.int (p : Int))] = .ok (.im (.str (chS cs[p]?))) [.im (.str (tx cs)), .im (.int (p : Int))] := by
  refine Wp.eq (wp_fn ?_)
  have e1 := len_tx h
  cases e : cs[p]? with
  | none =>
    have le : cs.length ≤ p := List.getElem?_eq_none_iff.mp e
    have n : ¬ ((p : Int) < (cs.length : Int)) := by omega
    simp [b__law_at, e1, n, chS]
  | some c =>
    have lt := (List.getElem?_eq_some_iff.mp e).1
    have n : ((p : Int) < (cs.length : Int)) := by omega
    simp [b__law_at, e1, n, tx_ix h e]
theorem fits_ok {w : List Nat} (p : Nat) {y : Str} (hy : y.cps.toList = w) (hw : ∀ c ∈ w, c < 0x110000) : m__law_fits [.im (.str (tx cs)), .im (.int (p : Int)), .im (.str y)] = .ok (.im (lawF (exS cs p w))) [.im (.str (tx cs)), .im (.int (p : Int)), .im (.str y)] := by
  refine Wp.eq (wp_fn ?_)
  simp [b__law_fits, iSeqs, hy]
  refine wp_floopJ (fun i ρ => ∃ x3 : SV, Nio x3 ∧ exS cs (p + i) (w.drop i) = exS cs p w ∧ ρ = [.im (.str (tx cs)), .im (.int ((p + i : Nat) : Int)), .im (.str y), x3]) ⟨.no, nio_no, rfl, rfl⟩ ?_ ?_
  · rintro i d ρ J he ⟨x3, n3, hi, rfl⟩ hJ
    rw [List.getElem?_map] at he
    obtain ⟨c, hc, rfl⟩ := Option.map_eq_some_iff.mp he
    obtain ⟨lt, ec⟩ := List.getElem?_eq_some_iff.mp hc
    rw [List.drop_eq_getElem_cons lt, ec, exS_cons] at hi
    have okc := okO_lit (hw c (List.mem_of_getElem? hc))
    have ca := lat_ok h (p + i)
    have ne : neD (.str (chS cs[p + i]?)) (.str ⟨#[c]⟩) = some (.im (.bl (!decide (cs[p + i]? = some c)))) := ne_ch (h.at _) okc
    generalize hpos : ((p + i : Nat) : Int) = pos at *
    simp [n3, ca, ne]
    by_cases cc : cs[p + i]? = some c
    · rw [if_pos cc] at hi
      simp [cc]
      refine hJ _ ⟨.im (.str ⟨#[c]⟩), nio_im, hi, ?_⟩
      rw [← hpos]
      rfl
    · rw [if_neg cc] at hi
      rw [← hi]
      simp [cc, lawF, ← hpos]
  · rintro ρ ⟨x3, n3, hi, rfl⟩
    rw [List.length_map, List.drop_length] at hi
    rw [List.length_map]
    have hi : Sc.ok () (p + w.length) = exS cs p w := hi
    rw [← hi]
    simp [lawF]
theorem figures_ok {p : Nat} (hp : p ≤ cs.length) : m__law_figures [.im (.str (tx cs)), .im (.int (p : Int))] = .ok (.im (lawF (nmS cs p))) [.im (.str (tx cs)), .im (.int (p : Int))] := by
  refine Wp.eq (wp_fn ?_)
  simp [-u_sSeq, b__law_figures]
  refine wp_seqI (fun ρ => ρ = [.im (.str (tx cs)), .im (.int (p : Int)), .im (.int (p : Int)), .no]) (by simp) ?_
  rintro ρ rfl
  refine wp_seqI (fun ρ => ρ = [.im (.str (tx cs)), .im (.int (p : Int)), .im (.int ((nmE cs p 6 p : Nat) : Int)), .no]) ?_ ?_
  · refine wp_whileJ (fun n ρ => ∃ (e : Nat), p ≤ e ∧ e ≤ p + 6 ∧ n = p + 6 - e ∧ e ≤ cs.length ∧ nmE cs p (p + 6 - e) e = nmE cs p 6 p ∧ ρ = [.im (.str (tx cs)), .im (.int (p : Int)), .im (.int (e : Int)), .no]) (n := 6) ⟨p, Nat.le_refl _, by omega, by omega, hp, by rw [show p + 6 - p = 6 by omega], rfl⟩ ?_
    rintro n ρ J ⟨e, h1, h2, rfl, h3, h4, rfl⟩ hJ
    have ca := lat_ok h e
    have em := ne_em (h.at e)
    have sl := sl_two h (a := p) h3
    have ns := ne_slc0 h (a := p) (b := e)
    by_cases c6 : e = p + 6
    · have lt : ¬ ((e : Int) < (p : Int) + 6) := by omega
      rw [show p + 6 - e = 0 by omega] at h4
      have h4 : e = nmE cs p 6 p := h4
      simp [lt, ← h4]
    · have lt : ((e : Int) < (p : Int) + 6) := by omega
      obtain ⟨k, hk⟩ : ∃ k, p + 6 - e = k + 1 := ⟨p + 5 - e, by omega⟩
      rw [hk, nmE_succ] at h4
      cases q : cs[e]? with
      | none =>
        rw [q] at ca em h4
        rw [if_neg (fun z => absurd z.1 (by decide))] at h4
        simp [lt, ca, em, ← h4]
      | some c =>
        rw [q] at ca em h4
        have id := @in_dec false c
        rw [Bool.false_bne] at id
        cases d : dgt c with
        | false =>
          rw [if_neg (fun z => by have z := z.1; rw [show isD (some c) = dgt c from rfl, d] at z; cases z)] at h4
          rw [d] at id
          simp [lt, ca, em, id, ← h4]
        | true =>
          rw [d] at id
          by_cases c0 : slc cs p e = [48]
          · rw [if_neg (fun z => z.2 c0)] at h4
            rw [decide_eq_false (fun z => z c0)] at ns
            simp [lt, ca, em, id, sl, ns, ← h4]
          · rw [if_pos ⟨d, c0⟩] at h4
            rw [decide_eq_true c0] at ns
            have lte : e < cs.length := (List.getElem?_eq_some_iff.mp q).1
            generalize hN : nmE cs p 6 p = N at *
            simp [lt, ca, em, id, sl, ns]
            exact hJ (p + 6 - (e + 1)) _ (by omega) ⟨e + 1, by omega, by omega, rfl, lte, by rw [show p + 6 - (e + 1) = k by omega]; exact h4, rfl⟩
  · rintro ρ rfl
    have m := nmE_le (cs := cs) (p := p) 6 p
    have ca := lat_ok h (nmE cs p 6 p)
    have em := ne_em (h.at (nmE cs p 6 p))
    unfold nmS
    generalize nmE cs p 6 p = e at *
    have more : WP (dAnd (dOp2 neD (dCall 2 [] m__law_at (aCons (dVar 0) (aCons (dVar 2) (aNil)))) (dC (.str ""))) (dOp2 (inD false) (dCall 2 [] m__law_at (aCons (dVar 0) (aCons (dVar 2) (aNil)))) (dC (.str "0123456789"))) [.im (.str (tx cs)), .im (.int (p : Int)), .im (.int (e : Int)), .no]) (fun r ρ => r = .im (.bl (isD cs[e]?)) ∧ ρ = [.im (.str (tx cs)), .im (.int (p : Int)), .im (.int (e : Int)), .no]) noX := by
      cases q : cs[e]? with
      | none =>
        rw [q] at ca em
        simp [ca, em, isD]
      | some c =>
        rw [q] at ca em
        have id := @in_dec false c
        rw [Bool.false_bne] at id
        simp [ca, em, id, isD]
    simp [-u_dAnd]
    refine Wp.mono more ?_ (fun _ _ z => z.elim)
    rintro r ρ ⟨rfl, rfl⟩
    by_cases c : e = p
    · subst c
      rw [if_pos (.inl rfl)]
      simp [lawF]
    · have c2 : (p : Int) < (e : Int) := by omega
      cases d : isD cs[e]? with
      | true =>
        rw [if_pos (.inr rfl)]
        simp [c2, lawF]
      | false =>
        rw [if_neg (fun z => z.elim c (fun y => by cases y))]
        simp [c2, lawF]
end
end Kx

/- part -/
set_option Elab.async false
set_option linter.all false
set_option maxRecDepth 100000
set_option maxHeartbeats 8000000
namespace Kx
open PySem DL PyProof.Rows
theorem fr_same {a b : Int} (hb : 2 ≤ b) : (frD a b = .tup [.int a, .int b]) ↔ Nat.gcd a.natAbs b.natAbs = 1 := by
  have g0 : 0 < Nat.gcd a.natAbs b.natAbs := Nat.gcd_pos_of_pos_right _ (by omega)
  rw [fr_pos (by omega)]
  constructor
  · intro z
    have z : D.tup [.int (a / gI a b), .int (b / gI a b)] = .tup [.int a, .int b] := z
    simp only [D.tup.injEq, List.cons.injEq, D.int.injEq, and_true] at z
    have zb := z.2
    have gp : 0 < gI a b := by
      show (0 : Int) < ((Nat.gcd a.natAbs b.natAbs : Nat) : Int)
      omega
    have : gI a b ≤ 1 := by
      apply Classical.byContradiction
      intro n
      have lt : b / gI a b < b := Int.ediv_lt_self_of_pos_of_ne_one (by omega) (by omega)
      omega
    have e : ((Nat.gcd a.natAbs b.natAbs : Nat) : Int) ≤ 1 := this
    omega
  · intro z
    have g : gI a b = 1 := by
      show ((Nat.gcd a.natAbs b.natAbs : Nat) : Int) = 1
      omega
    rw [g, Int.ediv_one, Int.ediv_one]
theorem ne_pair {a b : Int} (hb : 2 ≤ b) : neD (frD a b) (.tup [.int a, .int b]) = some (.im (.bl (decide (Nat.gcd a.natAbs b.natAbs ≠ 1)))) := by
  by_cases c : Nat.gcd a.natAbs b.natAbs = 1
  · rw [(fr_same hb).mpr c, decide_eq_false (fun z => z c)]
    exact ne_self (n := 3) (by simp [pg, pgs]) (by decide)
  · rw [decide_eq_true c]
    exact neD_ne (n := 3) (by simp [frD, pg, pgs]) (by simp [pg, pgs]) (by decide) fun z => c ((fr_same hb).mp z)
theorem dval_lt : ∀ (l : List Nat), NumText.AllDigits l → NumText.digitsVal l < 10 ^ l.length := fun l h => by
  have key : ∀ (l : List Nat) (a : Nat), NumText.AllDigits l → l.foldl (fun acc c => acc * 10 + (c - 48)) a < (a + 1) * 10 ^ l.length := fun l => by
    induction l with
    | nil => intro a _; simp
    | cons c l ih =>
      intro a h
      have hc := h.head
      have i := ih (a * 10 + (c - 48)) h.tail
      rw [List.foldl_cons, List.length_cons, Nat.pow_succ]
      refine Nat.lt_of_lt_of_le i ?_
      rw [Nat.mul_comm (10 ^ l.length) 10, ← Nat.mul_assoc]
      exact Nat.mul_le_mul_right _ (by omega)
  have z := key l 0 h
  unfold NumText.digitsVal
  simpa using z
section
variable {cs : List Nat} (h : Cs cs)
include h
theorem lfrac_ok {p : Nat} (hp : p ≤ cs.length) : m__law_scan_fraction [.im (.str (tx cs)), .im (.int (p : Int))] = .ok (.im (lawV (frS cs p))) [.im (.str (tx cs)), .im (.int (p : Int))] := by
  refine Wp.eq (wp_fn ?_)
  have ca := lat_ok h p
  have em := eq_mi (h.at p)
  have fin : ∀ (b e : Nat), e ≤ cs.length → gInt [.str (tx (slc cs p e))] = some (.im (.int (txV (slc cs p e)))) →
      WP (sSeq (sIf (fun ρ => (dOp2 neD (dCall 2 [] m__law_at (aCons (dVar 0) (aCons (dVar 3) (aNil)))) (dC (.str "/")) ρ).bind asB) (sRet (dTup (aCons (dVar 3) (aCons (dTup (aCons (dCb gInt (vCons (dSl (dVar 0) (oSome (dVar 1)) (oSome (dVar 3))) (vNil))) (aCons (dC (.int 1)) (aNil)))) (aNil))))) (sPass)) (sSeq (sAsg (tgTup 2 (tgCons (tgName 5) (tgCons (tgName 4) (tgNil)))) (dCall 2 [] m__law_figures (aCons (dVar 0) (aCons (dOp2 addD (dVar 3) (dC (.int 1))) (aNil))))) (sSeq (sIf (dNotT (fun ρ => ((dVar 4) ρ).bind asB)) (sRet (dTup (aCons (dVar 5) (aCons (dC .non) (aNil))))) (sPass)) (sSeq (sSet 6 (dTup (aCons (dCb gInt (vCons (dSl (dVar 0) (oSome (dVar 1)) (oSome (dVar 3))) (vNil))) (aCons (dCb gInt (vCons (dSl (dVar 0) (oSome (dOp2 addD (dVar 3) (dC (.int 1)))) (oSome (dVar 5))) (vNil))) (aNil))))) (sSeq (sIf (dOrT (fun ρ => (dOp2 ltD (dOp2 ixD (dVar 6) (dC (.int 1))) (dC (.int 2)) ρ).bind asB) (fun ρ => (dOp2 neD (dCall 2 [] m__law_lowest (aCons (dOp2 ixD (dVar 6) (dC (.int 0))) (aCons (dOp2 ixD (dVar 6) (dC (.int 1))) (aNil)))) (dVar 6) ρ).bind asB)) (sRet (dTup (aCons (dOp2 addD (dVar 3) (dC (.int 1))) (aCons (dC .non) (aNil))))) (sPass)) (sRet (dTup (aCons (dVar 5) (aCons (dVar 6) (aNil))))))))) [.im (.str (tx cs)), .im (.int (p : Int)), .im (.int (b : Int)), .im (.int (e : Int)), .im (.bl true), .no, .no])
        (fun f ρ => WP (mRet [.im (.str (tx cs)), .im (.int (p : Int))] f ρ) (fun a ρ => a = .im (lawV (frT cs p e)) ∧ ρ = [.im (.str (tx cs)), .im (.int (p : Int))]) noX) (fun x ρ => noX x (outs [.im (.str (tx cs)), .im (.int (p : Int))] ρ)) := fun b e he hi => by
    have ca := lat_ok h e
    have nl := ne_sl (h.at e)
    have sl := sl_two h (a := p) he
    by_cases c : cs[e]? = some 47
    · have lt : e < cs.length := (List.getElem?_eq_some_iff.mp c).1
      have eT : frT cs p e = (nmS cs (e + 1)).thn fun _ l => if txV (slc cs (e + 1) l) < 2 ∨ Nat.gcd (txV (slc cs p e)).natAbs (txV (slc cs (e + 1) l)).natAbs ≠ 1 then .no (e + 1) else .ok (txV (slc cs p e), txV (slc cs (e + 1) l)) l := by
        unfold frT
        rw [if_neg (fun z => z c)]
      rw [eT]
      rw [decide_eq_true c] at nl
      have fg := figures_ok h (p := e + 1) lt
      have fg : m__law_figures [.im (.str (tx cs)), .im (.int ((e : Int) + 1))] = .ok (.im (lawF (nmS cs (e + 1)))) [.im (.str (tx cs)), .im (.int ((e : Int) + 1))] := fg
      cases hl : nmS cs (e + 1) with
      | no l =>
        rw [hl] at fg
        simp [ca, nl, fg, lawF, Sc.thn, lawV]
      | ok u l =>
        have o := nmS_ok lt hl
        rw [hl] at fg
        have sl2 := sl_two h (a := e + 1) o.len
        have sl2 : slD (.str (tx cs)) (some ((e : Int) + 1)) (some (l : Int)) = _ := sl2
        have i2 := o.int
        have V : txV (slc cs (e + 1) l) = ((NumText.digitsVal (slc cs (e + 1) l) : Nat) : Int) := txV_dig o.dig
        have bd := dval_lt _ o.dig
        rw [slc_len o.len] at bd
        have bd : NumText.digitsVal (slc cs (e + 1) l) < 10 ^ 6 := Nat.lt_of_lt_of_le bd (Nat.pow_le_pow_right (by decide) (by have := o.le6; omega))
        rw [Sc.thn_ok]
        generalize txV (slc cs (e + 1) l) = bb at *
        generalize NumText.digitsVal (slc cs (e + 1) l) = bn at *
        generalize txV (slc cs p e) = a at *
        have bd : bn < 1000000 := bd
        by_cases c2 : bb < 2
        · rw [if_pos (.inl c2)]
          simp [ca, nl, fg, lawF, sl, hi, sl2, i2, c2, lawV]
        · have lo := low_ok (a := a) (b := bb) (by omega) (Nat.lt_trans (show bb.natAbs < 2 ^ 20 by omega) (Nat.pow_lt_pow_right (by decide) (by decide)))
          have np := ne_pair (a := a) (b := bb) (by omega)
          by_cases g : Nat.gcd a.natAbs bb.natAbs = 1
          · rw [if_neg (fun z => z.elim c2 (fun y => y g))]
            rw [decide_eq_false (fun z => z g)] at np
            simp [ca, nl, fg, lawF, sl, hi, sl2, i2, c2, lo, np, lawV, numD]
          · rw [if_pos (.inr g)]
            rw [decide_eq_true g] at np
            simp [ca, nl, fg, lawF, sl, hi, sl2, i2, c2, lo, np, lawV, numD]
    · have eT : frT cs p e = .ok (txV (slc cs p e), 1) e := by
        unfold frT
        rw [if_pos c]
      rw [eT]
      rw [decide_eq_false c] at nl
      simp [ca, nl, sl, hi, lawV, numD]
  simp [-u_sSeq, b__law_scan_fraction]
  by_cases c : cs[p]? = some 45
  · have lt : p < cs.length := (List.getElem?_eq_some_iff.mp c).1
    have ca2 := lat_ok h (p + 1)
    have ca2 : m__law_at [.im (.str (tx cs)), .im (.int ((p : Int) + 1))] = .ok (.im (.str (chS cs[p + 1]?))) [.im (.str (tx cs)), .im (.int ((p : Int) + 1))] := ca2
    have e0 := eq_ze (h.at (p + 1))
    have ig : gIntN [.bl true] = some (.im (.int 1)) := rfl
    rw [decide_eq_true c] at em
    refine wp_seqI (fun ρ => ρ = [.im (.str (tx cs)), .im (.int (p : Int)), .im (.int ((p : Int) + 1)), .no, .no, .no, .no]) (by simp [ca, em, ig]) ?_
    rintro ρ rfl
    have gt : (p : Int) < (p : Int) + 1 := by omega
    unfold frS
    rw [if_pos c]
    by_cases c0 : cs[p + 1]? = some 48
    · rw [if_pos c0]
      rw [decide_eq_true c0] at e0
      simp [gt, ca2, e0, lawV]
    · rw [if_neg c0]
      rw [decide_eq_false c0] at e0
      refine wp_seqI (fun ρ => ρ = [.im (.str (tx cs)), .im (.int (p : Int)), .im (.int ((p : Int) + 1)), .no, .no, .no, .no]) (by simp [gt, ca2, e0]) ?_
      rintro ρ rfl
      have fg := figures_ok h (p := p + 1) lt
      have fg : m__law_figures [.im (.str (tx cs)), .im (.int ((p : Int) + 1))] = .ok (.im (lawF (nmS cs (p + 1)))) [.im (.str (tx cs)), .im (.int ((p : Int) + 1))] := fg
      cases hl : nmS cs (p + 1) with
      | no e =>
        rw [hl] at fg
        simp [fg, lawF, Sc.thn, lawV]
      | ok u e =>
        have o := nmS_ok lt hl
        rw [hl] at fg
        rw [Sc.thn_ok]
        refine wp_seqI (fun ρ => ρ = [.im (.str (tx cs)), .im (.int (p : Int)), .im (.int ((p : Int) + 1)), .im (.int (e : Int)), .im (.bl true), .no, .no]) (by simp [fg, lawF]) ?_
        rintro ρ rfl
        refine wp_seqI (fun ρ => ρ = [.im (.str (tx cs)), .im (.int (p : Int)), .im (.int ((p : Int) + 1)), .im (.int (e : Int)), .im (.bl true), .no, .no]) (by simp) ?_
        rintro ρ rfl
        exact fin (p + 1) e o.len (o.intN c)
  · have ig : gIntN [.bl false] = some (.im (.int 0)) := rfl
    rw [decide_eq_false c] at em
    refine wp_seqI (fun ρ => ρ = [.im (.str (tx cs)), .im (.int (p : Int)), .im (.int (p : Int)), .no, .no, .no, .no]) (by simp [ca, em, ig]) ?_
    rintro ρ rfl
    refine wp_seqI (fun ρ => ρ = [.im (.str (tx cs)), .im (.int (p : Int)), .im (.int (p : Int)), .no, .no, .no, .no]) (by simp) ?_
    rintro ρ rfl
    have fg := figures_ok h (p := p) hp
    unfold frS
    rw [if_neg c]
    cases hl : nmS cs p with
    | no e =>
      rw [hl] at fg
      simp [fg, lawF, Sc.thn, lawV]
    | ok u e =>
      have o := nmS_ok hp hl
      rw [hl] at fg
      rw [Sc.thn_ok]
      refine wp_seqI (fun ρ => ρ = [.im (.str (tx cs)), .im (.int (p : Int)), .im (.int (p : Int)), .im (.int (e : Int)), .im (.bl true), .no, .no]) (by simp [fg, lawF]) ?_
      rintro ρ rfl
      refine wp_seqI (fun ρ => ρ = [.im (.str (tx cs)), .im (.int (p : Int)), .im (.int (p : Int)), .im (.int (e : Int)), .im (.bl true), .no, .no]) (by simp) ?_
      rintro ρ rfl
      exact fin p e o.len o.int
end
end Kx

/- part -/
set_option Elab.async false
set_option linter.all false
set_option maxRecDepth 100000
set_option maxHeartbeats 8000000
namespace Kx
open PySem DL PyProof.Rows
theorem not_w3 (x : Str) : inD true (.str x) (.tup [.str "abs", .str "max", .str "min"]) = some (.im (.bl (!(wds3.contains x)))) := by
  have e : ∀ y : Str, eqv (.str y) (.str x) = (y == x) := fun y => rfl
  show (if (true && true) = true then some (RV.im (.bl (true != (eqv (.str "abs") (.str x) || (eqv (.str "max") (.str x) || (eqv (.str "min") (.str x) || false)))))) else none) = _
  rw [if_pos (by rfl), e, e, e, Bool.true_bne]
  congr 4
  simp only [wds3, List.contains_cons, List.contains_nil, Bool.or_false]
  rw [Bool.beq_comm (a := x), Bool.beq_comm (a := x), Bool.beq_comm (a := x)]
  cases (Str.ofString "abs" == x) <;> cases (Str.ofString "max" == x) <;> cases (Str.ofString "min" == x) <;> rfl
theorem in_w2 (x : Str) : inD false (.str x) (.tup [.str "max", .str "min"]) = some (.im (.bl (decide (x = "max" ∨ x = "min")))) := by
  have e : ∀ y : Str, eqv (.str y) (.str x) = (y == x) := fun y => rfl
  show (if (true && true) = true then some (RV.im (.bl (false != (eqv (.str "max") (.str x) || (eqv (.str "min") (.str x) || false))))) else none) = _
  rw [if_pos (by rfl), e, e, Bool.false_bne, Bool.or_false]
  congr 3
  by_cases c1 : x = "max"
  · subst c1
    rw [decide_eq_true (.inl rfl), beq_self_eq_true, Bool.true_or]
  · by_cases c2 : x = "min"
    · subst c2
      rw [decide_eq_true (.inr rfl), beq_self_eq_true, Bool.or_true]
    · rw [decide_eq_false (fun z => z.elim c1 c2), beq_eq_false_iff_ne.mpr (Ne.symm c1), beq_eq_false_iff_ne.mpr (Ne.symm c2)]
      rfl
theorem lisname_ok {x : Str} (h : x.length ≤ 1000000) : m__law_is_name [.im (.str x)] = .ok (.im (.bl (isNm x))) [.im (.str x)] := by
  have hl : x.cps.toList.length ≤ 1000000 := by simpa [Str.length] using h
  have e1 := gLen_str h
  have ik := not_w3 x
  unfold isNm
  refine Wp.eq (wp_fn ?_)
  by_cases h2 : 2 ≤ x.length
  · have i2 : (2 : Int) ≤ (x.length : Int) := by omega
    by_cases h8 : x.length ≤ 8
    · have i8 : (x.length : Int) ≤ 8 := by omega
      cases k : wds3.contains x with
      | true =>
        rw [k] at ik
        simp [-List.contains_cons, b__law_is_name, e1, i2, i8, ik, h2, h8]
      | false =>
        rw [k] at ik
        rw [decide_eq_true h2, decide_eq_true h8]
        simp [-List.contains_cons, b__law_is_name, e1, i2, i8, ik, iSeqs]
        refine wp_cmapG (fun c => D.str ⟨#[c]⟩) (fun c => D.bl (lowc c)) x.cps.toList rfl rfl hl (fun c hc => ?_) ?_
        · have z : inD false (.str ⟨#[c]⟩) (.str "abcdefghijklmnopqrstuvwxyz") = some (.im (.bl (lowc c))) := in_let
          simp [letters_ok, z, rest]
        · have g : gAll [.lst (x.cps.toList.map fun c => D.bl (lowc c))] = some (.im (.bl (x.cps.toList.all lowc))) := by
            rw [gAll_of (bs := x.cps.toList.map lowc) (by rw [List.map_map]; rfl), List.all_map]
            rfl
          simp [-List.all_map, g]
    · have i8 : ¬ (x.length : Int) ≤ 8 := by omega
      simp [-List.contains_cons, b__law_is_name, e1, i2, i8, h8]
  · have i2 : ¬ (2 : Int) ≤ (x.length : Int) := by omega
    simp [-List.contains_cons, b__law_is_name, e1, i2, h2]
def Tp (s : Sc D) : Prop := ∀ d q, s = .ok d q → ∃ ds, d = .tup ds
theorem tp_no {p : Nat} : Tp (.no p) := fun d q e => by cases e
theorem tp_ok {ds : List D} {p : Nat} : Tp (.ok (.tup ds) p) := fun d q e => by cases e; exact ⟨ds, rfl⟩
theorem tp_thn {α : Type} {s : Sc α} {f : α → Nat → Sc D} (h : ∀ a p, Tp (f a p)) : Tp (s.thn f) := by
  cases s with
  | ok a p => exact h a p
  | no p => exact tp_no
theorem tp_ite {c : Prop} [Decidable c] {a b : Sc D} (ha : Tp a) (hb : Tp b) : Tp (if c then a else b) := by
  split
  · exact ha
  · exact hb
theorem tp_op {f : Nat → Sc D} {cs : List Nat} {q : Nat} {d1 : D} {o : Str} : Tp (opS f cs q d1 o) := tp_thn fun _ _ => tp_thn fun _ _ => tp_thn fun _ _ => tp_ok
theorem tp_prs {cs : List Nat} : ∀ (k p : Nat), Tp (prs cs k p)
  | 0, p => tp_no
  | k + 1, p => by
    rw [prs_succ]
    cases cs[p]? with
    | none => exact tp_no
    | some c =>
      refine tp_ite ?_ (tp_ite ?_ (tp_ite tp_no ?_))
      · exact tp_thn fun _ _ => tp_thn fun _ _ => tp_ite tp_op (tp_ite tp_op tp_no)
      · refine tp_ite tp_ok (tp_ite tp_no ?_)
        refine tp_thn fun _ _ => tp_thn fun _ _ => tp_ite ?_ ?_
        · exact tp_thn fun _ _ => tp_thn fun _ _ => tp_thn fun _ _ => tp_ok
        · refine tp_thn fun _ q2 d q e => ?_
          cases e
          split
          · exact ⟨_, rfl⟩
          · exact ⟨_, rfl⟩
      · exact tp_thn fun _ _ => tp_ite tp_ok (tp_thn fun _ _ => tp_ok)
def Lrt (cs : List Nat) (lev : Int) (m : SE → R RV) (f : Nat → Sc D) : Prop := ∀ p : Nat, m [.im (.str (tx cs)), .im (.int (p : Int)), .im (.int lev)] = .ok (.im (lawD (f p))) [.im (.str (tx cs)), .im (.int (p : Int)), .im (.int lev)]
section
variable {cs : List Nat} (h : Cs cs) {lev : Int} {m : SE → R RV} {f : Nat → Sc D} (F : Lrt cs (lev + 1) m f) (T : ∀ p, Tp (f p))
include h F T
theorem lpair_ok (p : Nat) : m__law_scan_pair m [.im (.str (tx cs)), .im (.int (p : Int)), .im (.int lev)] = .ok (.im (lawD (pairS f cs (p + 1)))) [.im (.str (tx cs)), .im (.int (p : Int)), .im (.int lev)] := by
  refine Wp.eq (wp_fn ?_)
  have F1 : m [.im (.str (tx cs)), .im (.int ((p : Int) + 1)), .im (.int (lev + 1))] = .ok (.im (lawD (f (p + 1)))) [.im (.str (tx cs)), .im (.int ((p : Int) + 1)), .im (.int (lev + 1))] := F (p + 1)
  have nn : ∀ ds : List D, isND false (.tup ds) .non = some (.im (.bl false)) := fun ds => rfl
  have n0 : isND false .non .non = some (.im (.bl true)) := rfl
  unfold pairS
  cases e1 : f (p + 1) with
  | no q =>
    rw [e1] at F1
    simp [b__law_scan_pair, F1, lawD, n0, Sc.thn]
  | ok d1 q =>
    obtain ⟨d1, rfl⟩ := T _ _ _ e1
    rw [e1] at F1
    rw [Sc.thn_ok]
    have x1 := fits_ok h q c_sp (by decide)
    cases e2 : exS cs q [32] with
    | no q2 =>
      rw [e2] at x1
      have at2 := lat_ok h q2
      simp [b__law_scan_pair, F1, lawD, lawF, nn, x1, at2, Sc.thn]
    | ok u q2 =>
      rw [e2] at x1
      rw [Sc.thn_ok]
      have at2 := lat_ok h q2
      have pm : inD true (.str (chS cs[q2]?)) (.tup [.str "+", .str "-"]) = some (.im (.bl (!decide (cs[q2]? = some 43 ∨ cs[q2]? = some 45)))) := by
        have e : ∀ y : Str, eqv (.str y) (.str (chS cs[q2]?)) = (y == chS cs[q2]?) := fun y => rfl
        show (if (true && true) = true then some (RV.im (.bl (true != (eqv (.str "+") (.str (chS cs[q2]?)) || (eqv (.str "-") (.str (chS cs[q2]?)) || false))))) else none) = _
        rw [if_pos (by rfl), e, e, Bool.true_bne, Bool.or_false, lt_pl, lt_mi]
        congr 3
        by_cases c1 : cs[q2]? = some 43
        · rw [decide_eq_true (.inl c1), c1, beq_self_eq_true]
          rfl
        · by_cases c2 : cs[q2]? = some 45
          · rw [decide_eq_true (.inr c2), c2, beq_self_eq_true, Bool.or_true]
          · rw [decide_eq_false (fun z => z.elim c1 c2), beq_eq_false_iff_ne.mpr (fun z => c1 (chS_inj z).symm), beq_eq_false_iff_ne.mpr (fun z => c2 (chS_inj z).symm)]
            rfl
      have eqp : eqD (.str (chS cs[q2]?)) (.str "+") = some (.im (.bl (decide (cs[q2]? = some 43)))) := by
        rw [lt_pl]
        exact eq_ch (h.at _) (okO_lit (by decide))
      by_cases c0 : cs[q2]? = some 43 ∨ cs[q2]? = some 45
      · rw [decide_eq_true c0] at pm
        obtain ⟨o, ho, hs⟩ : ∃ o : Str, (o = if cs[q2]? = some 43 then "add" else "subtract") ∧ (if cs[q2]? = some 43 then opS f cs q2 (.tup d1) "add" else if cs[q2]? = some 45 then opS f cs q2 (.tup d1) "subtract" else .no q2) = opS f cs q2 (.tup d1) o := by
          by_cases c1 : cs[q2]? = some 43
          · exact ⟨"add", by rw [if_pos c1], by rw [if_pos c1]⟩
          · have c2 := c0.resolve_left c1
            exact ⟨"subtract", by rw [if_neg c1], by rw [if_neg c1, if_pos c2]⟩
        rw [hs]
        unfold opS
        have x2 : m__law_fits [.im (.str (tx cs)), .im (.int ((q2 : Int) + 1)), .im (.str " ")] = .ok (.im (lawF (exS cs (q2 + 1) [32]))) [.im (.str (tx cs)), .im (.int ((q2 : Int) + 1)), .im (.str " ")] := fits_ok h (q2 + 1) c_sp (by decide)
        cases e3 : exS cs (q2 + 1) [32] with
        | no q3 =>
          rw [e3] at x2
          simp [b__law_scan_pair, F1, lawD, lawF, nn, n0, x1, at2, pm, x2, Sc.thn]
        | ok u q3 =>
          rw [e3] at x2
          rw [Sc.thn_ok]
          have F2 := F q3
          cases e4 : f q3 with
          | no q4 =>
            rw [e4] at F2
            simp [b__law_scan_pair, F1, lawD, lawF, nn, n0, x1, at2, pm, x2, F2, Sc.thn]
          | ok d2 q4 =>
            obtain ⟨d2, rfl⟩ := T _ _ _ e4
            rw [e4] at F2
            rw [Sc.thn_ok]
            have x3 := fits_ok h q4 c_rp (by decide)
            cases e5 : exS cs q4 [41] with
            | no q5 =>
              rw [e5] at x3
              simp [b__law_scan_pair, F1, lawD, lawF, nn, n0, x1, at2, pm, x2, F2, x3, Sc.thn]
            | ok u q5 =>
              rw [e5] at x3
              rw [Sc.thn_ok]
              subst ho
              by_cases c1 : cs[q2]? = some 43
              · rw [decide_eq_true c1] at eqp
                rw [if_pos c1]
                simp [b__law_scan_pair, F1, lawD, lawF, nn, n0, x1, at2, pm, x2, F2, x3, eqp]
              · rw [decide_eq_false c1] at eqp
                rw [if_neg c1]
                simp [b__law_scan_pair, F1, lawD, lawF, nn, n0, x1, at2, pm, x2, F2, x3, eqp]
      · rw [decide_eq_false c0] at pm
        rw [if_neg (fun z => c0 (.inl z)), if_neg (fun z => c0 (.inr z))]
        simp [b__law_scan_pair, F1, lawD, lawF, nn, x1, at2, pm]
end
end Kx

/- part -/
set_option Elab.async false
set_option linter.all false
set_option maxRecDepth 100000
set_option maxHeartbeats 8000000
namespace Kx
open PySem DL PyProof.Rows
section
variable {cs : List Nat} (h : Cs cs) {lev : Int} {m : SE → R RV} {f : Nat → Sc D} (F : Lrt cs (lev + 1) m f) (T : ∀ p, Tp (f p))
include h F T
theorem lword_ok (p : Nat) (hp : p < cs.length) : m__law_scan_word m [.im (.str (tx cs)), .im (.int (p : Int)), .im (.int lev)] = .ok (.im (lawD (wordS f cs p))) [.im (.str (tx cs)), .im (.int (p : Int)), .im (.int lev)] := by
  refine Wp.eq (wp_fn ?_)
  have nn : ∀ ds : List D, isND false (.tup ds) .non = some (.im (.bl false)) := fun ds => rfl
  have n0 : isND false .non .non = some (.im (.bl true)) := rfl
  simp [-u_sSeq, b__law_scan_word]
  refine wp_seqI (fun ρ => ρ = [.im (.str (tx cs)), .im (.int (p : Int)), .im (.int lev), .im (.int (p : Int)), .no, .no, .no, .no, .no]) (by simp) ?_
  rintro ρ rfl
  have wl := wdE_le (cs := cs) (p := p) (by omega)
  refine wp_seqI (fun ρ => ρ = [.im (.str (tx cs)), .im (.int (p : Int)), .im (.int lev), .im (.int ((wdE cs p : Nat) : Int)), .no, .no, .no, .no, .no]) ?_ ?_
  · refine wp_whileJ (fun n ρ => ∃ (e : Nat), p ≤ e ∧ e ≤ cs.length ∧ n = cs.length - e ∧ wdE cs e = wdE cs p ∧ ρ = [.im (.str (tx cs)), .im (.int (p : Int)), .im (.int lev), .im (.int (e : Int)), .no, .no, .no, .no, .no]) (n := cs.length - p) ⟨p, Nat.le_refl _, by omega, rfl, rfl, rfl⟩ ?_
    rintro n ρ J ⟨e, h1, h2, rfl, h3, rfl⟩ hJ
    have ca := lat_ok h e
    have ne := ne_em (h.at e)
    cases hc : cs[e]? with
    | none =>
      rw [wdE_stop (by rw [hc]; rfl)] at h3
      rw [hc] at ca ne
      simp [ca, ne, ← h3]
    | some c =>
      rw [hc] at ca ne
      have il := @in_let c
      have lt : e < cs.length := (List.getElem?_eq_some_iff.mp hc).1
      cases hl : lowc c with
      | false =>
        rw [wdE_stop (by rw [hc]; exact hl)] at h3
        rw [hl] at il
        simp [ca, ne, letters_ok, il, ← h3]
      | true =>
        rw [wdE_go hc hl] at h3
        rw [hl] at il
        generalize hN : wdE cs p = N at *
        simp [ca, ne, letters_ok, il]
        exact hJ (cs.length - (e + 1)) _ (by omega) ⟨e + 1, by omega, lt, rfl, h3, rfl⟩
  · rintro ρ rfl
    unfold wordS
    have sl := sl_two h (a := p) wl.2
    have tO := tx_all (slc_lt h (a := p) (b := wdE cs p))
    have l6 : (tx (slc cs p (wdE cs p))).length ≤ 1000000 := by
      rw [tx_len]
      unfold slc
      have := List.length_take_le (wdE cs p - p) (cs.drop p)
      have := h.len
      omega
    have nm := lisname_ok l6
    have ex := eq_str tO (lit_ok "x")
    have ea := eq_str tO (lit_ok "abs")
    generalize tx (slc cs p (wdE cs p)) = x at *
    generalize wdE cs p = e at *
    have ik := not_w3 x
    have iw := in_w2 x
    by_cases c1 : x = "x"
    · rw [if_pos c1]
      rw [decide_eq_true c1] at ex
      simp [sl, ex, lawD]
    · rw [if_neg c1]
      rw [decide_eq_false c1] at ex
      by_cases c2 : wds3.contains x = false ∧ isNm x = false
      · rw [if_pos c2]
        rw [c2.1] at ik
        rw [c2.2] at nm
        simp [-List.contains_cons, sl, ex, ik, nm, lawD]
      · rw [if_neg c2]
        unfold argS
        refine wp_seqI (fun ρ => ρ = [.im (.str (tx cs)), .im (.int (p : Int)), .im (.int lev), .im (.int (e : Int)), .im (.str x), .no, .no, .no, .no]) (by simp [sl]) ?_
        rintro ρ rfl
        refine wp_seqI (fun ρ => ρ = [.im (.str (tx cs)), .im (.int (p : Int)), .im (.int lev), .im (.int (e : Int)), .im (.str x), .no, .no, .no, .no]) (by simp [ex]) ?_
        rintro ρ rfl
        refine wp_seqI (fun ρ => ρ = [.im (.str (tx cs)), .im (.int (p : Int)), .im (.int lev), .im (.int (e : Int)), .im (.str x), .no, .no, .no, .no]) ?_ ?_
        · cases k : wds3.contains x with
          | true =>
            rw [k] at ik
            simp [-List.contains_cons, ik]
          | false =>
            have k2 : isNm x = true := by
              cases z : isNm x with
              | true => rfl
              | false => exact (c2 ⟨k, z⟩).elim
            rw [k] at ik
            rw [k2] at nm
            simp [-List.contains_cons, ik, nm]
        rintro ρ rfl
        clear c2 ik nm ex sl
        have x1 := fits_ok h e c_lp (by decide)
        cases e1 : exS cs e [40] with
        | no q =>
          rw [e1] at x1
          simp [x1, lawF, n0, lawD, Sc.thn]
        | ok u q =>
          rw [e1] at x1
          rw [Sc.thn_ok]
          have F1 := F q
          cases e2 : f q with
          | no q1 =>
            rw [e2] at F1
            simp [x1, lawF, F1, n0, lawD, Sc.thn]
          | ok d1 q1 =>
            obtain ⟨d1, rfl⟩ := T _ _ _ e2
            rw [e2] at F1
            rw [Sc.thn_ok]
            obtain ⟨res, hres⟩ : ∃ res : List D, (if x = "abs" then D.tup [.str "abs", .tup d1] else .tup [.str "call", .str x, .tup d1]) = .tup res := by
              split
              · exact ⟨_, rfl⟩
              · exact ⟨_, rfl⟩
            refine wp_seqI (fun ρ => ρ = [.im (.str (tx cs)), .im (.int (p : Int)), .im (.int lev), .im (.int (q : Int)), .im (.str x), .im (.bl true), .no, .no, .no]) (by simp [x1, lawF]) ?_
            rintro ρ rfl
            refine wp_seqI (fun ρ => ρ = [.im (.str (tx cs)), .im (.int (p : Int)), .im (.int lev), .im (.int (q1 : Int)), .im (.str x), .im (.bl true), .im (.tup d1), .no, .no]) (by simp [F1, lawD]) ?_
            rintro ρ rfl
            refine wp_seqI (fun ρ => ρ = [.im (.str (tx cs)), .im (.int (p : Int)), .im (.int lev), .im (.int (q1 : Int)), .im (.str x), .im (.bl true), .im (.tup d1), .no, .no]) (by simp [nn]) ?_
            rintro ρ rfl
            refine wp_seqI (fun ρ => ρ = [.im (.str (tx cs)), .im (.int (p : Int)), .im (.int lev), .im (.int (q1 : Int)), .im (.str x), .im (.bl true), .im (.tup d1), .im (.tup res), .no]) ?_ ?_
            · by_cases c4 : x = "abs"
              · rw [decide_eq_true c4] at ea
                rw [if_pos c4] at hres
                simp [ea, hres]
              · rw [decide_eq_false c4] at ea
                rw [if_neg c4] at hres
                simp [ea, hres]
            rintro ρ rfl
            by_cases c3 : x = "max" ∨ x = "min"
            · rw [if_pos c3]
              rw [decide_eq_true c3] at iw
              have x2 := fits_ok h q1 c_cs (by decide)
              cases e3 : exS cs q1 [44, 32] with
              | no q2 =>
                rw [e3] at x2
                simp [iw, x2, lawF, n0, lawD, Sc.thn]
              | ok u q2 =>
                rw [e3] at x2
                rw [Sc.thn_ok]
                have F2 := F q2
                cases e4 : f q2 with
                | no q3 =>
                  rw [e4] at F2
                  simp [iw, x2, lawF, F2, n0, lawD, Sc.thn]
                | ok d2 q3 =>
                  obtain ⟨d2, rfl⟩ := T _ _ _ e4
                  rw [e4] at F2
                  rw [Sc.thn_ok]
                  have x3 := fits_ok h q3 c_rp (by decide)
                  cases e5 : exS cs q3 [41] with
                  | no q4 =>
                    rw [e5] at x3
                    simp [iw, x2, lawF, F2, nn, x3, lawD, Sc.thn]
                  | ok u q4 =>
                    rw [e5] at x3
                    simp [iw, x2, lawF, F2, nn, x3, lawD, Sc.thn]
            · rw [if_neg c3, hres]
              rw [decide_eq_false c3] at iw
              have x3 := fits_ok h q1 c_rp (by decide)
              cases e5 : exS cs q1 [41] with
              | no q4 =>
                rw [e5] at x3
                simp [iw, x3, lawF, lawD, Sc.thn]
              | ok u q4 =>
                rw [e5] at x3
                simp [iw, x3, lawF, lawD, Sc.thn]
end
theorem in_dm {c : Nat} : inD true (.str (chS (some c))) (.str "0123456789-") = some (.im (.bl (decide (dgt c = false ∧ c ≠ 45)))) := by
  rw [in_one, Bool.true_bne]
  congr 3
  have e : ("0123456789-" : Str).cps.toList = ("0123456789" : Str).cps.toList ++ [45] := by decide +kernel
  have d := @mem_dec c
  by_cases c1 : dgt c = true
  · rw [c1] at d
    have m : c ∈ ("0123456789-" : Str).cps.toList := by
      rw [e]
      exact List.mem_append_left _ (of_decide_eq_true d)
    rw [decide_eq_true m, decide_eq_false (fun z => by rw [c1] at z; cases z.1)]
    rfl
  · have c1 : dgt c = false := by
      cases z : dgt c with
      | true => exact (c1 z).elim
      | false => rfl
    rw [c1] at d
    have nd := of_decide_eq_false d
    by_cases c2 : c = 45
    · have m : c ∈ ("0123456789-" : Str).cps.toList := by
        rw [e, c2]
        exact List.mem_append_right _ (List.mem_singleton.mpr rfl)
      rw [decide_eq_true m, decide_eq_false (fun z => z.2 c2)]
      rfl
    · have m : c ∉ ("0123456789-" : Str).cps.toList := by
        rw [e]
        intro z
        rcases List.mem_append.mp z with z | z
        · exact nd z
        · exact c2 (List.mem_singleton.mp z)
      rw [decide_eq_false m, decide_eq_true ⟨c1, c2⟩]
      rfl
section
variable {cs : List Nat} (h : Cs cs)
include h
theorem lscan_ok : ∀ (k n : Nat) (lev : Int), lev = 13 - (k : Int) → k + 1 ≤ n → Lrt cs lev (m__law_scan n) (prs cs k)
  | k, 0, _, _, hn => by omega
  | 0, n + 1, lev, hl, hn => fun p => by
    have es : m__law_scan (n + 1) = mFn n__law_scan.length (b__law_scan (m__law_scan n)) := rfl
    have ca := lat_ok h p
    have l13 : (12 : Int) < lev := by omega
    rw [es]
    refine Wp.eq (wp_fn ?_)
    simp [b__law_scan, ca, l13, prs, lawD]
  | k + 1, n + 1, lev, hl, hn => fun p => by
    have es : m__law_scan (n + 1) = mFn n__law_scan.length (b__law_scan (m__law_scan n)) := rfl
    have F := lscan_ok k n (lev + 1) (by omega) (by omega)
    have T := tp_prs (cs := cs) k
    have ca := lat_ok h p
    have em := eq_em (h.at p)
    have lp := eq_lp (h.at p)
    have l13 : ¬ (12 : Int) < lev := by omega
    have nn : ∀ ds : List D, isND false (.tup ds) .non = some (.im (.bl false)) := fun ds => rfl
    have n0 : isND false .non .non = some (.im (.bl true)) := rfl
    rw [es]
    refine Wp.eq (wp_fn ?_)
    cases hc : cs[p]? with
    | none =>
      rw [show prs cs (k + 1) p = .no p from by rw [prs_succ, hc]]
      rw [hc] at ca em
      simp [b__law_scan, ca, l13, em, lawD]
    | some c =>
      have lt : p < cs.length := (List.getElem?_eq_some_iff.mp hc).1
      rw [hc] at ca em lp
      rw [show prs cs (k + 1) p = (if c = 40 then pairS (prs cs k) cs (p + 1) else if lowc c = true then wordS (prs cs k) cs p else if dgt c = false ∧ c ≠ 45 then .no p else numS (prs cs k) cs p) from by rw [prs_succ, hc]]
      by_cases c1 : c = 40
      · rw [if_pos c1]
        rw [decide_eq_true (congrArg some c1)] at lp
        have pr := lpair_ok h F T p
        simp [b__law_scan, ca, l13, em, lp, pr]
      · rw [if_neg c1]
        rw [decide_eq_false (fun z => c1 (Option.some.inj z))] at lp
        have il := @in_let c
        cases hlw : lowc c with
        | true =>
          rw [if_pos rfl]
          rw [hlw] at il
          have wo := lword_ok h F T p lt
          simp [b__law_scan, ca, l13, em, lp, letters_ok, il, wo]
        | false =>
          rw [if_neg (by decide)]
          rw [hlw] at il
          have dm := @in_dm c
          by_cases c2 : dgt c = false ∧ c ≠ 45
          · rw [if_pos c2]
            rw [decide_eq_true c2] at dm
            simp [b__law_scan, ca, l13, em, lp, letters_ok, il, dm, lawD]
          · rw [if_neg c2]
            rw [decide_eq_false c2] at dm
            unfold numS
            have fr := lfrac_ok h (p := p) (by omega)
            cases e1 : frS cs p with
            | no q =>
              rw [e1] at fr
              simp [b__law_scan, ca, l13, em, lp, letters_ok, il, dm, fr, lawV, n0, lawD, Sc.thn]
            | ok v q =>
              rw [e1] at fr
              rw [Sc.thn_ok]
              have ca2 := lat_ok h q
              have st := ne_st (h.at q)
              by_cases c3 : cs[q]? = some 42
              · rw [if_neg (fun z => z c3)]
                rw [decide_eq_true c3] at st
                have F1 : m__law_scan n [.im (.str (tx cs)), .im (.int ((q : Int) + 1)), .im (.int (lev + 1))] = .ok (.im (lawD (prs cs k (q + 1)))) [.im (.str (tx cs)), .im (.int ((q : Int) + 1)), .im (.int (lev + 1))] := F (q + 1)
                cases e2 : prs cs k (q + 1) with
                | no r =>
                  rw [e2] at F1
                  simp [b__law_scan, ca, l13, em, lp, letters_ok, il, dm, fr, lawV, numD, nn, n0, ca2, st, F1, lawD, Sc.thn]
                | ok d r =>
                  obtain ⟨d, rfl⟩ := T _ _ _ e2
                  rw [e2] at F1
                  simp [b__law_scan, ca, l13, em, lp, letters_ok, il, dm, fr, lawV, numD, nn, n0, ca2, st, F1, lawD, Sc.thn]
              · rw [if_pos c3]
                rw [decide_eq_false c3] at st
                simp [b__law_scan, ca, l13, em, lp, letters_ok, il, dm, fr, lawV, numD, nn, n0, ca2, st, lawD]
end
end Kx

/- part -/
set_option Elab.async false
set_option linter.all false
set_option maxRecDepth 100000
set_option maxHeartbeats 8000000
namespace Kx
open PySem DL PyProof.Rows
theorem str_sg {n : Nat} {x : Str} (h : x.cps.all (· < 0x110000) = true) : sg (n + 1) (.str x) = true := by
  unfold sg
  exact sok_of h
def Al {α : Type} (P : α → Nat → Prop) (s : Sc α) : Prop := ∀ a q, s = .ok a q → P a q
section
variable {α β : Type} {P : α → Nat → Prop}
theorem al_no {p : Nat} : Al P (.no p) := fun a q e => by cases e
theorem al_ok {a : α} {p : Nat} (h : P a p) : Al P (.ok a p) := fun d q e => by cases e; exact h
theorem al_thn {s : Sc β} {f : β → Nat → Sc α} (h : ∀ a p, s = .ok a p → Al P (f a p)) : Al P (s.thn f) := by
  cases e : s with
  | ok a p => exact h a p e
  | no p => exact al_no
theorem al_ite {c : Prop} [Decidable c] {a b : Sc α} (ha : c → Al P a) (hb : ¬ c → Al P b) : Al P (if c then a else b) := by
  split
  · rename_i z; exact ha z
  · rename_i z; exact hb z
end
section
variable {cs : List Nat}
theorem exS_le : ∀ {w : List Nat} {p q : Nat}, w ≠ [] → exS cs p w = .ok () q → q ≤ cs.length
  | [], _, _, h, _ => (h rfl).elim
  | [c], p, q, _, e => by
    rw [exS_cons] at e
    split at e
    · rename_i z
      have e : Sc.ok () (p + 1) = .ok () q := e
      cases e
      exact (List.getElem?_eq_some_iff.mp z).1
    · cases e
  | c :: d :: w, p, q, _, e => by
    rw [exS_cons] at e
    split at e
    · exact exS_le (by simp) e
    · cases e
theorem frS_le {p : Nat} (hp : p ≤ cs.length) : Al (fun _ q => q ≤ cs.length) (frS cs p) := by
  have t : ∀ e, e ≤ cs.length → Al (fun (_ : Int × Int) q => q ≤ cs.length) (frT cs p e) := fun e he => by
    unfold frT
    refine al_ite (fun _ => al_ok he) (fun z => al_thn fun _ l hl => ?_)
    have lt : e < cs.length := by
      cases q : cs[e]? with
      | none => rw [q] at z; exact (z (by simp)).elim
      | some c => exact (List.getElem?_eq_some_iff.mp q).1
    exact al_ite (fun _ => al_no) (fun _ => al_ok (nmS_ok lt hl).len)
  unfold frS
  refine al_ite (fun c => al_ite (fun _ => al_no) (fun _ => al_thn fun _ e he => t e ?_)) (fun _ => al_thn fun _ e he => t e (nmS_ok hp he).len)
  exact (nmS_ok (show p + 1 ≤ cs.length from (List.getElem?_eq_some_iff.mp c).1) he).len
variable (h : Cs cs)
include h
theorem slc_sg {n a b : Nat} : sg (n + 1) (.str (tx (slc cs a b))) = true := str_sg (tx_all (slc_lt h))
theorem prs_al : ∀ (k p n : Nat), k + 2 ≤ n → Al (fun d q => q ≤ cs.length ∧ sg n d = true) (prs cs k p)
  | 0, p, n, _ => al_no
  | k + 1, p, n, hn => by
    obtain ⟨m, rfl⟩ : ∃ m, n = m + 1 := ⟨n - 1, by omega⟩
    have ih := fun p => prs_al k p m (by omega)
    obtain ⟨m', rfl⟩ : ∃ m', m = m' + 1 := ⟨m - 1, by omega⟩
    have one : ∀ {a : D}, sg (m' + 1) a = true → sg (m' + 2) (.tup [a]) = true := fun ha => by
      unfold sg
      simp [sgs, ha]
    have two : ∀ {a b : D}, sg (m' + 1) a = true → sg (m' + 1) b = true → sg (m' + 2) (.tup [a, b]) = true := fun ha hb => by
      unfold sg
      simp [sgs, ha, hb]
    have three : ∀ {a b c : D}, sg (m' + 1) a = true → sg (m' + 1) b = true → sg (m' + 1) c = true → sg (m' + 2) (.tup [a, b, c]) = true := fun ha hb hc => by
      unfold sg
      simp [sgs, ha, hb, hc]
    have lit : ∀ s : String, sg (m' + 1) (.str (Str.ofString s)) = true := fun s => str_sg (sok_lit s)
    have nD : ∀ v : Int × Int, sg (m' + 1) (numD v) = true := fun v => by
      obtain ⟨m2, rfl⟩ : ∃ m2, m' = m2 + 1 := ⟨m' - 1, by omega⟩
      simp [numD, sg, sgs]
    have op : ∀ q d1 (o : String), sg (m' + 1) d1 = true → Al (fun d q => q ≤ cs.length ∧ sg (m' + 2) d = true) (opS (prs cs k) cs q d1 (Str.ofString o)) := fun q d1 o h1 => by
      unfold opS
      refine al_thn fun _ q3 _ => al_thn fun d2 q4 e2 => al_thn fun _ q5 e5 => al_ok ⟨exS_le (by simp) e5, three (lit o) h1 (ih _ _ _ e2).2⟩
    rw [prs_succ]
    cases hc : cs[p]? with
    | none => exact al_no
    | some c =>
      have lt : p < cs.length := (List.getElem?_eq_some_iff.mp hc).1
      refine al_ite (fun _ => ?_) (fun _ => al_ite (fun _ => ?_) (fun _ => al_ite (fun _ => al_no) (fun _ => ?_)))
      · unfold pairS
        refine al_thn fun d1 q e1 => al_thn fun _ q2 _ => al_ite (fun _ => op _ _ "add" (ih _ _ _ e1).2) (fun _ => al_ite (fun _ => op _ _ "subtract" (ih _ _ _ e1).2) (fun _ => al_no))
      · unfold wordS
        refine al_ite (fun _ => al_ok ⟨(wdE_le (Nat.le_of_lt lt)).2, one (lit "x")⟩) (fun _ => al_ite (fun _ => al_no) (fun _ => ?_))
        unfold argS
        refine al_thn fun _ q _ => al_thn fun d1 q1 e1 => al_ite (fun _ => ?_) (fun _ => ?_)
        · refine al_thn fun _ q2 _ => al_thn fun d2 q3 e3 => al_thn fun _ q4 e4 => al_ok ⟨exS_le (by simp) e4, three (slc_sg h) (ih _ _ _ e1).2 (ih _ _ _ e3).2⟩
        · refine al_thn fun _ q2 e2 => al_ok ⟨exS_le (by simp) e2, ?_⟩
          split
          · exact two (lit "abs") (ih _ _ _ e1).2
          · exact three (lit "call") (slc_sg h) (ih _ _ _ e1).2
      · unfold numS
        refine al_thn fun v q e1 => al_ite (fun _ => al_ok ⟨frS_le (Nat.le_of_lt lt) _ _ e1, two (lit "number") (nD v)⟩) (fun _ => al_thn fun d r e2 => al_ok ⟨(ih _ _ _ e2).1, three (lit "multiple") (nD v) (ih _ _ _ e2).2⟩)
def dueD : Sc D → D
  | .ok d _ => .tup [.str "", d]
  | .no p => .tup [.str "InvalidText", .int (p : Int)]
theorem due_sg : sg 16 (dueD (prsA cs)) = true := by
  cases e : prsA cs with
  | no p =>
    have z := str_sg (n := 14) (sok_lit "InvalidText")
    unfold dueD sg
    simp [sgs, z]
    unfold sg
    rfl
  | ok d q =>
    have z := str_sg (n := 14) (sok_lit "")
    have a := (prs_al h 12 0 15 (by decide))
    have b : sg 15 d = true := by
      unfold prsA at e
      cases e2 : prs cs 12 0 with
      | no r => rw [e2] at e; cases e
      | ok d2 q2 =>
        rw [e2, Sc.thn_ok] at e
        split at e
        · cases e
        · cases e
          exact (a _ _ e2).2
    unfold dueD sg
    simp [sgs, z, b]
theorem due_ok : m__law_due [.im (.str (tx cs))] = .ok (.im (dueD (prsA cs))) [.im (.str (tx cs))] := by
  have e1 := len_tx h
  have F : m__law_scan 14 [.im (.str (tx cs)), .im (.int 0), .im (.int 1)] = .ok (.im (lawD (prs cs 12 0))) [.im (.str (tx cs)), .im (.int 0), .im (.int 1)] := lscan_ok h 12 14 1 (by decide) (by decide) 0
  have nn : ∀ ds : List D, isND true (.tup ds) .non = some (.im (.bl true)) := fun ds => rfl
  have n0 : isND true .non .non = some (.im (.bl false)) := rfl
  refine Wp.eq (wp_fn ?_)
  unfold prsA
  cases e : prs cs 12 0 with
  | no q =>
    rw [e] at F
    simp [b__law_due, F, lawD, n0, Sc.thn, dueD]
  | ok d q =>
    obtain ⟨ds, rfl⟩ := tp_prs 12 0 _ _ e
    have le := (prs_al h 12 0 14 (by decide) _ _ e).1
    rw [e] at F
    rw [Sc.thn_ok]
    by_cases c : q < cs.length
    · have ne : eqD (.int (q : Int)) (.int (cs.length : Nat)) = some (.im (.bl false)) := eqD_ne (n := 1) rfl rfl (by decide) fun z => by have := D.int.inj z; omega
      rw [if_pos c]
      simp [b__law_due, F, lawD, nn, e1, ne, dueD]
    · have eq : q = cs.length := by omega
      subst eq
      rw [if_neg c]
      have ne : eqD (.int (cs.length : Int)) (.int (cs.length : Nat)) = some (.im (.bl true)) := eq_self (n := 1) rfl (by decide)
      simp [b__law_due, F, lawD, nn, e1, ne, dueD]
end
theorem fieldP {p : Nat} {C : Str} : m__law_field [.im (.exc C [("position", .int (p : Int)), ("tag", .str "InvalidText")])] = .ok (.im (.int (p : Int))) [.im (.exc C [("position", .int (p : Int)), ("tag", .str "InvalidText")])] := by
  have tg : attrD "tag" (.exc C [("position", .int (p : Int)), ("tag", .str "InvalidText")]) = some (.im (.str "InvalidText")) := by
    show (List.lookup ("tag" : Str) [(("position" : Str), D.int (p : Int)), (("tag" : Str), D.str "InvalidText")]).map RV.im = _
    rw [List.lookup_cons, show (("tag" : Str) == "position") = false from by decide +kernel, List.lookup_cons, beq_self_eq_true]
    rfl
  have li : attrD "position" (.exc C [("position", .int (p : Int)), ("tag", .str "InvalidText")]) = some (.im (.int (p : Int))) := by
    show (List.lookup ("position" : Str) [(("position" : Str), D.int (p : Int)), (("tag" : Str), D.str "InvalidText")]).map RV.im = _
    rw [List.lookup_cons, beq_self_eq_true]
    rfl
  have i1 := inD_strs "InvalidText" ["CircularName", "InvalidName", "DuplicateName", "WrongKind", "UndefinedName"]
  have i2 := inD_strs "InvalidText" ["InvalidText", "InvalidCommand"]
  rw [show ((["CircularName", "InvalidName", "DuplicateName", "WrongKind", "UndefinedName"] : List Str).any fun y => y == "InvalidText") = false from by decide +kernel] at i1
  rw [show ((["InvalidText", "InvalidCommand"] : List Str).any fun y => y == "InvalidText") = true from by decide +kernel] at i2
  simp only [List.map_cons, List.map_nil] at i1 i2
  refine Wp.eq (wp_fn ?_)
  simp [b__law_field, tg, li, i1, i2]
theorem out_pos {p : Nat} {ρ : SE} {Q : RV → SE → Prop} {E : Exc → SE → Prop} (ok : okE "InvalidText" = true) (k : Q (.im (.tup [.str "InvalidText", .int (p : Int)])) ρ) : WP (outEx m__law_field okE (exT p) ρ) Q E := by
  have e : outEx m__law_field okE (exT p) ρ = .ok (.im (.tup [.str "InvalidText", .int (p : Int)])) ρ := by
    unfold outEx exT
    rw [if_pos ok, fieldP]
    show (match List.lookup ("tag" : Str) [(("position" : Str), D.int (p : Int)), (("tag" : Str), D.str "InvalidText")], (R.ok (RV.im (D.int (p : Int))) [] : R RV) with
      | some (.str t), .ok (.im d) _ => if flat d = true then (R.ok (.im (.tup [.str t, d])) ρ : R RV) else .bad
      | _, _ => .bad) = _
    rw [List.lookup_cons, show (("tag" : Str) == "position") = false from by decide +kernel, List.lookup_cons, beq_self_eq_true]
    rfl
  exact .of e k
end Kx

/- part -/
set_option Elab.async false
set_option linter.all false
set_option maxRecDepth 100000
set_option maxHeartbeats 8000000
namespace Kx
open PySem DL PyProof.Rows
structure Tt (N : Nat) (cs : List Nat) : Prop where
  len : cs.length ≤ N
  lt : ∀ c ∈ cs, c < 0x110000
theorem Tt.cs {N : Nat} {cs : List Nat} (h : Tt N cs) (hN : N ≤ 100000) : Cs cs := ⟨Nat.le_trans h.len hN, h.lt⟩
theorem Tt.mono {N M : Nat} {cs : List Nat} (h : Tt N cs) (hN : N ≤ M) : Tt M cs := ⟨Nat.le_trans h.len hN, h.lt⟩
abbrev sgns : List Str := ["", " ", "(", ")", ",", "+", "-", "*", "/", "x", "a", "max(", "A", "0", "1", "2", "7", "."]
def okS (N : Nat) (y : Str) : Bool := decide (y.length ≤ N) && y.cps.toList.all fun c => decide (c < 0x110000)
theorem okS_tt {N : Nat} {y : Str} (h : okS N y = true) : Tt N y.cps.toList := by
  unfold okS at h
  obtain ⟨h1, h2⟩ := Bool.and_eq_true_iff.mp h
  refine ⟨of_decide_eq_true h1, fun c hc => ?_⟩
  exact of_decide_eq_true (List.all_eq_true.mp h2 c hc)
theorem sgns_ok : sgns.all (okS 4) = true := by decide +kernel
theorem cut_any {l : List Nat} {k : Nat} : L2.cutS (tx l) (some (k : Int)) none = tx (l.drop k) := by
  unfold L2.cutS
  rw [HT.sIx_nat, HT.sIx_none, tx_len, tx_cps]
  show tx _ = tx _
  congr 1
  by_cases h : k ≤ l.length
  · rw [Nat.min_eq_left h, List.take_of_length_le (by rw [List.length_drop]; exact Nat.le_refl _)]
  · rw [Nat.min_eq_right (by omega), List.drop_of_length_le (Nat.le_refl _), List.drop_of_length_le (by omega)]
    simp
theorem alter_wp {N : Nat} {cs : List Nat} {r : List D} {Q : RV → SE → Prop} {E : Exc → SE → Prop} (hr : RngOk r) (t : Tt N cs) (hN : N ≤ 10000) (k : ∀ cs' r', Tt (N + 4) cs' → RngOk r' → Q (.im (.str (tx cs'))) [.ow true (.ls r'), .im (.str (tx cs))]) : WP (m__law_altered [.ow true (.ls r), .im (.str (tx cs))]) Q E := by
  have h := t.cs (by omega)
  have le := t.len
  have e1 := len_tx h
  refine wp_fn ?_
  simp [b__law_altered, e1]
  refine draw_wp hr (by omega) (by omega) fun w r1 a1 a2 hr1 => ?_
  obtain ⟨a, rfl⟩ : ∃ a : Nat, w = (a : Int) := ⟨w.toNat, by omega⟩
  have ha : a ≤ cs.length := by omega
  simp
  refine pick_wp hr1 (by simp) (by simp) fun d r2 hd hr2 => ?_
  obtain ⟨y, hy, rfl⟩ : ∃ y ∈ sgns, d = .str y := by
    have hd : d ∈ sgns.map D.str := hd
    obtain ⟨y, hy, e⟩ := List.mem_map.mp hd
    exact ⟨y, hy, e.symm⟩
  have ty := okS_tt (List.all_eq_true.mp sgns_ok y hy)
  obtain ⟨ys, rfl⟩ : ∃ ys, y = tx ys := ⟨_, tx_of y⟩
  rw [tx_cps] at ty
  have ly := ty.len
  simp
  refine draw_wp hr2 (by omega) (by omega) fun w2 r3 b1 b2 hr3 => ?_
  have s1 := sl_str (x := tx cs) (lo := none) (hi := some (a : Int)) (by rw [tx_len]; omega)
  rw [cut_to ha] at s1
  by_cases c : w2 = 0
  · simp [c, s1]
    exact k _ r3 ⟨by rw [List.length_take]; omega, fun c hc => t.lt c (List.mem_of_mem_take hc)⟩ hr3
  · have l1 : (cs.take a).length ≤ N := by rw [List.length_take]; omega
    have ad1 := add_tx (a := cs.take a) (b := ys) (by omega)
    simp [c, s1, ad1]
    refine draw_wp hr3 (by omega) (by omega) fun w3 r4 c1 c2 hr4 => ?_
    obtain ⟨b, rfl⟩ : ∃ b : Nat, w3 = (b : Int) := ⟨w3.toNat, by omega⟩
    have s2 := sl_str (x := tx cs) (lo := some ((a + b : Nat) : Int)) (hi := none) (by rw [tx_len]; omega)
    rw [cut_any] at s2
    have s2 : slD (.str (tx cs)) (some ((a : Int) + (b : Int))) none = _ := s2
    have ld : (cs.drop (a + b)).length ≤ cs.length - a := by rw [List.length_drop]; omega
    have lt' : (cs.take a).length ≤ a := List.length_take_le _ _
    have ad2 := add_tx (a := cs.take a ++ ys) (b := cs.drop (a + b)) (by rw [List.length_append]; omega)
    simp [-List.append_assoc, s2, ad2]
    refine k _ r4 ⟨by rw [List.length_append, List.length_append]; omega, fun c hc => ?_⟩ hr4
    rcases List.mem_append.mp hc with hc | hc
    · rcases List.mem_append.mp hc with hc | hc
      · exact t.lt c (List.mem_of_mem_take hc)
      · exact ty.lt c hc
    · exact t.lt c (List.mem_of_mem_drop hc)
abbrev fA : List Str := ["", " ", "x ", " x", "xx", "(x)", "x + x", "(x +x)", "(x+ x)", "(x  + x)", "(x * x)", "(x + x"]
abbrev fB : List Str := ["-x", "--1", "-", "-0", "0", "00", "01", "0/2", "1/1", "1/0", "2/4", "1/02", "1/", "/2"]
abbrev fC : List Str := ["1234567", "1/1234567", "2*", "2*3", "2*-3", "2 *x", "1/2*3/4*x", "0*x", "abs(x", "abs x"]
abbrev fD : List Str := ["abs()", "max(x)", "max(x,x)", "max(x, x, x)", "min(x, x)", "abs(x, x)", "half(x)"]
abbrev fE : List Str := ["0/5", "2/4444444", "1/05", "-0/3", "1/00", "3/1", "1/7777777x"]
abbrev fF : List Str := ["half(x, x)", "abcdefghi(x)", "a(x)", "ab", "Ab(x)"]
theorem fix_ok : (fA ++ fB ++ fC ++ fD ++ fE ++ fF).all (okS 400) = true := by decide +kernel
theorem add_fix {a b : List Str} (h : a.length + b.length ≤ 1000) : addD (.lst (a.map D.str)) (.lst (b.map D.str)) = some (.ow (.ls ((a ++ b).map D.str))) := by
  rw [addD_lstA (by rw [List.length_map, List.length_map]; omega), List.map_append]
def lastT : List Nat := [109, 97, 120, 40, 120, 44, 32, 50, 47, 52, 41]
theorem last_no : prsA lastT = .no 9 := by
  have z : (match prsA lastT with | .no 9 => true | _ => false) = true := by decide +kernel
  cases e : prsA lastT with
  | ok d q => rw [e] at z; cases z
  | no q =>
    rw [e] at z
    by_cases c : q = 9
    · rw [c]
    · exfalso
      revert z
      simp [c]
theorem law_good : LawGood m_law := by
  intro sc hsc
  suffices h : WP (m_law [.im (.scr sc)]) (fun x _ => x = .im (.bl true)) noX by
    obtain ⟨x, ρ, e, rfl⟩ := Wp.some h
    exact ⟨ρ, e⟩
  refine wp_fn ?_
  have g6 : rngOk 6 = true := by decide
  simp [-u_sSeq, b_law]
  obtain ⟨FX, hFX⟩ : ∃ FX : List Str, FX = fA ++ fB ++ fC ++ fD ++ fE ++ fF := ⟨_, rfl⟩
  have lFX : FX.length = 55 := by rw [hFX]; rfl
  have okFX : FX.all (okS 400) = true := by rw [hFX]; exact fix_ok
  refine wp_seqI (fun ρ => ∃ r, RngOk r ∧ ρ = [.im (.scr sc), .ow false (.ls r), .no, .no, .no, .no, .no, .no, .no]) ?_ ?_
  · simp
    refine begin_wp hsc fun r0 hr0 => ?_
    simp
    exact hr0
  rintro ρ ⟨r, hr, rfl⟩
  refine wp_seqI (fun ρ => ρ = [.im (.scr sc), .ow false (.ls r), .ow false (.ls (fA.map D.str)), .no, .no, .no, .no, .no, .no]) (by simp) ?_
  rintro ρ rfl
  have step : ∀ (a b : List Str) (b' : List D), b' = b.map D.str → a.length + b.length ≤ 1000 → addD (.lst (a.map D.str)) (.lst b') = some (.ow (.ls ((a ++ b).map D.str))) := fun a b b' hb hl => by rw [hb]; exact add_fix hl
  have sB := step fA fB _ rfl (by decide)
  have sC := step (fA ++ fB) fC _ rfl (by decide)
  have sD := step (fA ++ fB ++ fC) fD _ rfl (by decide)
  have sE := step (fA ++ fB ++ fC ++ fD) fE _ rfl (by decide)
  have sF := step (fA ++ fB ++ fC ++ fD ++ fE) fF _ rfl (by decide)
  rw [← hFX] at sF
  generalize fA ++ fB ++ fC ++ fD ++ fE = f5 at *
  generalize fA ++ fB ++ fC ++ fD = f4 at *
  generalize fA ++ fB ++ fC = f3 at *
  generalize fA ++ fB = f2 at *
  generalize fA = f1 at *
  refine wp_seqI (fun ρ => ρ = [.im (.scr sc), .ow false (.ls r), .ow false (.ls (f2.map D.str)), .no, .no, .no, .no, .no, .no]) ?_ ?_
  · simp only [List.map_cons, List.map_nil] at sB
    simp [sB]
  rintro ρ rfl
  refine wp_seqI (fun ρ => ρ = [.im (.scr sc), .ow false (.ls r), .ow false (.ls (f3.map D.str)), .no, .no, .no, .no, .no, .no]) ?_ ?_
  · simp only [List.map_cons, List.map_nil] at sC
    simp [sC]
  rintro ρ rfl
  refine wp_seqI (fun ρ => ρ = [.im (.scr sc), .ow false (.ls r), .ow false (.ls (f4.map D.str)), .no, .no, .no, .no, .no, .no]) ?_ ?_
  · simp only [List.map_cons, List.map_nil] at sD
    simp [sD]
  rintro ρ rfl
  refine wp_seqI (fun ρ => ρ = [.im (.scr sc), .ow false (.ls r), .ow false (.ls (f5.map D.str)), .no, .no, .no, .no, .no, .no]) ?_ ?_
  · simp only [List.map_cons, List.map_nil] at sE
    simp [sE]
  rintro ρ rfl
  refine wp_seqI (fun ρ => ρ = [.im (.scr sc), .ow false (.ls r), .ow false (.ls (FX.map D.str)), .no, .no, .no, .no, .no, .no]) ?_ ?_
  · simp only [List.map_cons, List.map_nil] at sF
    simp [sF]
  rintro ρ rfl
  clear sB sC sD sE sF step
  have tFX : ∀ d ∈ FX.map D.str, ∃ cs, d = .str (tx cs) ∧ Tt 400 cs := fun d hd => by
    obtain ⟨y, hy, rfl⟩ := List.mem_map.mp hd
    have t := okS_tt (List.all_eq_true.mp okFX y hy)
    exact ⟨y.cps.toList, by rw [← tx_of], t⟩
  refine wp_seqI (fun ρ => ∃ (ts : List (List Nat)) (r' : List D) (x2 : SV), Nio x2 ∧ RngOk r' ∧ ts.length = 6 ∧ (∀ cs ∈ ts, Tt 400 cs) ∧ ρ = [.im (.scr sc), .ow false (.ls r'), x2, .ow false (.ls (ts.map fun cs => D.str (tx cs))), .no, .no, .no, .no, .no]) ?_ ?_
  · simp [g6]
    refine wp_cloopJ (fun i acc ρ => ∃ (ts : List (List Nat)) (r' : List D) (x2 : SV), (x2 = .ow false (.ls (FX.map D.str)) ∨ x2 = .im (.lst (FX.map D.str))) ∧ RngOk r' ∧ acc = ts.map (fun cs => D.str (tx cs)) ∧ ts.length = i ∧ (∀ cs ∈ ts, Tt 400 cs) ∧ ρ = [.im (.scr sc), .ow false (.ls r'), x2, .no, .no, .no, .no, .no, .no]) (by simp) ⟨[], r, _, .inl rfl, hr, rfl, rfl, (fun cs hc => by cases hc), rfl⟩ ?_ ?_ ?_
    · rintro i acc ρ ⟨ts, r', x2, h2, hr', rfl, hl, ht, rfl⟩
      exact ⟨rfl, by rw [List.length_map]; omega⟩
    · rintro i d acc ρ J hd ⟨ts, r', x2, h2, hr', rfl, hl, ht, rfl⟩ hJ
      rw [List.getElem?_map] at hd
      obtain ⟨j, hj, rfl⟩ := Option.map_eq_some_iff.mp hd
      rcases h2 with rfl | rfl
      all_goals
        simp
        refine pick_wp hr' (by simp; omega) (by simp; omega) fun d r2 hd hr2 => ?_
        obtain ⟨cs, rfl, tc⟩ := tFX d hd
        simp [rest]
        refine hJ _ _ ⟨ts ++ [cs], r2, _, .inr rfl, hr2, by rw [List.map_append]; rfl, by rw [List.length_append, hl]; rfl, fun c hc => ?_, rfl⟩
        rcases List.mem_append.mp hc with z | z
        · exact ht c z
        · rw [List.mem_singleton.mp z]
          exact tc
    · rintro acc ρ ⟨ts, r', x2, h2, hr', rfl, hl, ht, rfl⟩
      rw [List.length_map, List.length_range] at hl
      have n2 : Nio x2 := by
        rcases h2 with rfl | rfl
        · exact nio_ow
        · exact nio_im
      simp
      exact ⟨ts, r', x2, n2, hr', by omega, ht, rfl, rfl, rfl⟩
  rintro ρ ⟨ts, r, x2, n2, hr, hl, ht, rfl⟩
  clear tFX okFX lFX hFX
  refine wp_seqI (fun ρ => ∃ (ts : List (List Nat)) (r' : List D) (x5 x6 x7 : SV), (Nio x5 ∧ Nio x6 ∧ Nio x7) ∧ RngOk r' ∧ ts.length = 12 ∧ (∀ cs ∈ ts, Tt 500 cs) ∧ ρ = [.im (.scr sc), .ow false (.ls r'), x2, .ow false (.ls (ts.map fun cs => D.str (tx cs))), .no, x5, x6, x7, .no]) ?_ ?_
  · simp [g6]
    refine wp_floopJ (fun i ρ => ∃ (ts : List (List Nat)) (r' : List D) (x5 x6 x7 : SV), (Nio x5 ∧ Nio x6 ∧ Nio x7) ∧ RngOk r' ∧ ts.length = 6 + i ∧ (∀ cs ∈ ts, Tt 500 cs) ∧ ρ = [.im (.scr sc), .ow false (.ls r'), x2, .ow false (.ls (ts.map fun cs => D.str (tx cs))), .no, x5, x6, x7, .no])
      ⟨ts, r, .no, .no, .no, ⟨nio_no, nio_no, nio_no⟩, hr, by omega, fun cs hc => (ht cs hc).mono (by decide), rfl⟩ ?_ ?_
    · clear ht hr hl
      rintro i d ρ J hd ⟨ts, r1, x5, x6, x7, ⟨n5, n6, n7⟩, hr1, hl, ht, rfl⟩ hJ
      rw [List.getElem?_map] at hd
      obtain ⟨j, hj, rfl⟩ := Option.map_eq_some_iff.mp hd
      have li : i < 6 := by
        have := (List.getElem?_eq_some_iff.mp hj).1
        rw [List.length_range] at this
        omega
      simp [n5]
      refine names_wpN hr1 (by omega) (by omega) fun ns r2 hnl hn nd hr2 => ?_
      have low : ∀ x ∈ ns, x.cps.all (· < 0x110000) = true := fun x hx => low_okc (hn x hx).1
      simp
      refine draw_wp hr2 (by omega) (by omega) fun w r3 w1 w2 hr3 => ?_
      simp
      refine expr_wp (ns := ns) low (by omega) 8 hr3 (by omega) (by omega) (by omega) fun e r4 eo eh hr4 => ?_
      have eo : ExOk NmOk e := ExOk.mono hn eo
      have eh : exH e ≤ 4 := by omega
      have lt := ltext_ok 8 e eo (by omega) (by omega)
      have ln := txE_len e eo
      have p4 : 2 ^ exH e ≤ 2 ^ 4 := Nat.pow_le_pow_right (by decide) eh
      have tE : Tt 400 (txE e) := ⟨by have : 2 ^ 4 = 16 := rfl; omega, fun c hc => Nat.lt_trans (txE_low e eo c hc) (by decide)⟩
      simp [n6, lt]
      refine draw_wp hr4 (by omega) (by omega) fun w2 r5 b1 b2 hr5 => ?_
      have gw : rngOk w2 = true := rngOk_of (by omega) (by omega)
      simp [gw]
      refine wp_floopJ (fun i ρ => ∃ (cs : List Nat) (r' : List D) (x7 : SV), Tt (400 + 4 * i) cs ∧ RngOk r' ∧ Nio x7 ∧ ρ = [.im (.scr sc), .ow false (.ls r'), x2, .ow false (.ls (ts.map fun cs => D.str (tx cs))), .no, .im (.int (j : Int)), .im (.str (tx cs)), x7, .no])
        ⟨txE e, r5, x7, tE, hr5, n7, rfl⟩ ?_ ?_
      · rintro i d ρ J' hd ⟨cs, r6, x7, tc, hr6, n7, rfl⟩ hJ'
        rw [List.getElem?_map] at hd
        obtain ⟨j2, hj2, rfl⟩ := Option.map_eq_some_iff.mp hd
        have li2 : i < 3 := by
          have := (List.getElem?_eq_some_iff.mp hj2).1
          rw [List.length_range] at this
          omega
        simp [n7]
        refine alter_wp hr6 tc (by omega) fun cs' r7 tc' hr7 => ?_
        simp
        exact hJ' _ ⟨cs', r7, _, tc'.mono (by omega), hr7, nio_im, rfl⟩
      · rintro ρ ⟨cs, r6, x7, tc, hr6, n7, rfl⟩
        rw [List.length_map, List.length_range] at tc
        have ap : gAppend (ts.map fun cs => D.str (tx cs)) [.str (tx cs)] = some (.non, (ts ++ [cs]).map fun cs => D.str (tx cs)) := by
          rw [app_ok (by rw [List.length_map]; omega), List.map_append]
          rfl
        simp [-List.map_append, ap]
        refine hJ _ ⟨ts ++ [cs], r6, _, _, x7, ⟨nio_im, nio_im, n7⟩, hr6, by rw [List.length_append, hl]; rfl, fun c hc => ?_, rfl⟩
        rcases List.mem_append.mp hc with z | z
        · exact ht c z
        · rw [List.mem_singleton.mp z]
          exact tc.mono (by omega)
    · rintro ρ ⟨ts, r1, x5, x6, x7, ⟨n5, n6, n7⟩, hr1, hl, ht, rfl⟩
      rw [List.length_map, List.length_range] at hl
      exact ⟨rfl, ts, r1, x5, x6, x7, ⟨n5, n6, n7⟩, hr1, by omega, ht, rfl⟩
  clear ht hl hr
  rintro ρ ⟨ts, r1, x5, x6, x7, ⟨n5, n6, n7⟩, hr1, hl, ht, rfl⟩
  simp
  refine wp_floopJ (fun _ ρ => ∃ (x6 x8 : SV), (Nio x6 ∧ Nio x8) ∧ ρ = [.im (.scr sc), .ow false (.ls r1), x2, .im (.lst (ts.map fun cs => D.str (tx cs))), .no, x5, x6, x7, x8]) ⟨x6, .no, ⟨n6, nio_no⟩, rfl⟩ ?_ ?_
  · rintro i d ρ J hd ⟨x6, x8, ⟨n6, n8⟩, rfl⟩ hJ
    rw [List.getElem?_map] at hd
    obtain ⟨cs, hcs, rfl⟩ := Option.map_eq_some_iff.mp hd
    have hc := (ht cs (List.mem_of_getElem? hcs)).cs (by decide)
    have du := due_ok hc
    have sm := same_self 16 _ (due_sg hc)
    simp [n6]
    refine expression_wp hc (fun ds q hq => ?_) (fun q hq => ?_)
    · rw [hq] at du sm
      have du : m__law_due [.im (.str (tx cs))] = .ok (.im (.tup [.str "", .tup ds])) [.im (.str (tx cs))] := du
      have sm : m__law_same 16 [.im (.tup [.str "", .tup ds]), .im (.tup [.str "", .tup ds])] = .ok (.im (.bl true)) [.im (.tup [.str "", .tup ds]), .im (.tup [.str "", .tup ds])] := sm
      simp [n8, du, sm]
      exact hJ _ ⟨_, _, ⟨nio_im, nio_im⟩, rfl⟩
    · rw [hq] at du sm
      have du : m__law_due [.im (.str (tx cs))] = .ok (.im (.tup [.str "InvalidText", .int (q : Int)])) [.im (.str (tx cs))] := du
      have sm : m__law_same 16 [.im (.tup [.str "InvalidText", .int (q : Int)]), .im (.tup [.str "InvalidText", .int (q : Int)])] = .ok (.im (.bl true)) [.im (.tup [.str "InvalidText", .int (q : Int)]), .im (.tup [.str "InvalidText", .int (q : Int)])] := sm
      refine out_pos (by decide +kernel) ?_
      simp [n8, du, sm]
      exact hJ _ ⟨_, _, ⟨nio_im, nio_im⟩, rfl⟩
  · rintro ρ ⟨x6, x8, ⟨n6, n8⟩, rfl⟩
    have lT : ("max(x, 2/4)" : Str) = tx lastT := by decide +kernel
    have hc : Cs lastT := ⟨by decide, by decide⟩
    have eqT : eqD (.tup [.str "InvalidText", .int 9]) (.tup [.str "InvalidText", .int 9]) = some (.im (.bl true)) := eq_self (n := 4) (by simp [pg, pgs, sok_lit]) (by decide)
    simp
    rw [lT]
    refine expression_wp hc (fun ds q hq => ?_) (fun q hq => ?_)
    · rw [last_no] at hq
      cases hq
    · rw [last_no] at hq
      cases hq
      refine out_pos (by decide +kernel) ?_
      simp [eqT]
end Kx

/- part -/
set_option Elab.async false
set_option linter.all false
set_option maxRecDepth 100000
set_option maxHeartbeats 4000000
namespace Kx
noncomputable section
open PySem PySem.Spec PyProof.Rows L2 DL
abbrev si_InvalidText : Stmt := L2.inClass (topS 2) 0
theorem sci_InvalidText : FnScope ["self", "position"] ["self", "position"] (defScope si_InvalidText) := ⟨rfl, rfl, rfl, by decide +kernel, rfl, by decide +kernel, by decide +kernel⟩
open PySem.W in
theorem all_mk {l : PySem.W.OpenLaw} {w : World} {K : PySem.W.Frag} {h : Heap} {mg : Str → Option Value} {fa f__law_begin f__law_draw f__law_pick f__law_fraction_text f__law_text f__law_lowest f__law_text_fraction f__law_expression f__law_letters f__law_names f__law_altered f_char_at f_scan_exact f_parse_pair f_is_name f_parse_word f_is_decimal f_scan_number f_common_divisor f_scan_fraction f_parse_part f_parse_expression f__law_same f__law_at f__law_fits f__law_scan_pair f__law_is_name f__law_scan_word f__law_figures f__law_scan_fraction f__law_scan f__law_due f_law f__law_outcome f__law_field e1 e2 e3 c Pt C_InvalidText i_InvalidText N_InvalidText : Addr} (X : K.In h) (G : h.Ns mainGlobals mg) (hfa : mg "law" = some (.ref fa)) (own : LamX.OwnTab K fa h)
    {od__law_begin an__law_begin od__law_draw an__law_draw od__law_pick an__law_pick od__law_fraction_text an__law_fraction_text od__law_text an__law_text od__law_lowest an__law_lowest od__law_text_fraction an__law_text_fraction od__law_expression an__law_expression od__law_letters an__law_letters od__law_names an__law_names od__law_altered an__law_altered od_char_at an_char_at od_scan_exact an_scan_exact od_parse_pair an_parse_pair od_is_name an_is_name od_parse_word an_parse_word od_is_decimal an_is_decimal od_scan_number an_scan_number od_common_divisor an_common_divisor od_scan_fraction an_scan_fraction od_parse_part an_parse_part od_parse_expression an_parse_expression od__law_same an__law_same od__law_at an__law_at od__law_fits an__law_fits od__law_scan_pair an__law_scan_pair od__law_is_name an__law_is_name od__law_scan_word an__law_scan_word od__law_figures an__law_figures od__law_scan_fraction an__law_scan_fraction od__law_scan an__law_scan od__law_due an__law_due od_law an_law od__law_outcome an__law_outcome od__law_field an__law_field od_InvalidText an_InvalidText : Option Addr} {sl__law_begin sl__law_draw sl__law_pick sl__law_fraction_text sl__law_text sl__law_lowest sl__law_text_fraction sl__law_expression sl__law_letters sl__law_names sl__law_altered sl_char_at sl_scan_exact sl_parse_pair sl_is_name sl_parse_word sl_is_decimal sl_scan_number sl_common_divisor sl_scan_fraction sl_parse_part sl_parse_expression sl__law_same sl__law_at sl__law_fits sl__law_scan_pair sl__law_is_name sl__law_scan_word sl__law_figures sl__law_scan_fraction sl__law_scan sl__law_due sl_law sl__law_outcome sl__law_field sl_InvalidText : Array (Option Value)} {oc__law_begin kV__law_begin dc__law_begin pm__law_begin ct__law_begin cd__law_begin oc__law_draw kV__law_draw dc__law_draw pm__law_draw ct__law_draw cd__law_draw oc__law_pick kV__law_pick dc__law_pick pm__law_pick ct__law_pick cd__law_pick oc__law_fraction_text kV__law_fraction_text dc__law_fraction_text pm__law_fraction_text ct__law_fraction_text cd__law_fraction_text oc__law_text kV__law_text dc__law_text pm__law_text ct__law_text cd__law_text oc__law_lowest kV__law_lowest dc__law_lowest pm__law_lowest ct__law_lowest cd__law_lowest oc__law_text_fraction kV__law_text_fraction dc__law_text_fraction pm__law_text_fraction ct__law_text_fraction cd__law_text_fraction oc__law_expression kV__law_expression dc__law_expression pm__law_expression ct__law_expression cd__law_expression oc__law_letters kV__law_letters dc__law_letters pm__law_letters ct__law_letters cd__law_letters oc__law_names kV__law_names dc__law_names pm__law_names ct__law_names cd__law_names oc__law_altered kV__law_altered dc__law_altered pm__law_altered ct__law_altered cd__law_altered oc_char_at kV_char_at dc_char_at pm_char_at ct_char_at cd_char_at oc_scan_exact kV_scan_exact dc_scan_exact pm_scan_exact ct_scan_exact cd_scan_exact oc_parse_pair kV_parse_pair dc_parse_pair pm_parse_pair ct_parse_pair cd_parse_pair oc_is_name kV_is_name dc_is_name pm_is_name ct_is_name cd_is_name oc_parse_word kV_parse_word dc_parse_word pm_parse_word ct_parse_word cd_parse_word oc_is_decimal kV_is_decimal dc_is_decimal pm_is_decimal ct_is_decimal cd_is_decimal oc_scan_number kV_scan_number dc_scan_number pm_scan_number ct_scan_number cd_scan_number oc_common_divisor kV_common_divisor dc_common_divisor pm_common_divisor ct_common_divisor cd_common_divisor oc_scan_fraction kV_scan_fraction dc_scan_fraction pm_scan_fraction ct_scan_fraction cd_scan_fraction oc_parse_part kV_parse_part dc_parse_part pm_parse_part ct_parse_part cd_parse_part oc_parse_expression kV_parse_expression dc_parse_expression pm_parse_expression ct_parse_expression cd_parse_expression oc__law_same kV__law_same dc__law_same pm__law_same ct__law_same cd__law_same oc__law_at kV__law_at dc__law_at pm__law_at ct__law_at cd__law_at oc__law_fits kV__law_fits dc__law_fits pm__law_fits ct__law_fits cd__law_fits oc__law_scan_pair kV__law_scan_pair dc__law_scan_pair pm__law_scan_pair ct__law_scan_pair cd__law_scan_pair oc__law_is_name kV__law_is_name dc__law_is_name pm__law_is_name ct__law_is_name cd__law_is_name oc__law_scan_word kV__law_scan_word dc__law_scan_word pm__law_scan_word ct__law_scan_word cd__law_scan_word oc__law_figures kV__law_figures dc__law_figures pm__law_figures ct__law_figures cd__law_figures oc__law_scan_fraction kV__law_scan_fraction dc__law_scan_fraction pm__law_scan_fraction ct__law_scan_fraction cd__law_scan_fraction oc__law_scan kV__law_scan dc__law_scan pm__law_scan ct__law_scan cd__law_scan oc__law_due kV__law_due dc__law_due pm__law_due ct__law_due cd__law_due oc_law kV_law dc_law pm_law ct_law oc__law_outcome kV__law_outcome dc__law_outcome pm__law_outcome ct__law_outcome cd__law_outcome oc__law_field kV__law_field dc__law_field pm__law_field ct__law_field cd__law_field oc_InvalidText kV_InvalidText dc_InvalidText pm_InvalidText ct_InvalidText cd_InvalidText : Value}
    (a__law_begin : nsIn K mainGlobals "_law_begin" = some (some (.ref f__law_begin)))
    (l__law_begin : K.lookup f__law_begin = some ⟨oc__law_begin, od__law_begin, .func (fnOf "_law_begin" "_law_begin" (defArgs s__law_begin) (defBody s__law_begin) (defScope s__law_begin) .none kV__law_begin dc__law_begin pm__law_begin an__law_begin cd__law_begin ct__law_begin), sl__law_begin⟩)
    (e__law_begin : codeIn K cd__law_begin "_law_begin" = true)
    (k__law_begin : keepIn K (.ref f__law_begin) = true)
    (a__law_draw : nsIn K mainGlobals "_law_draw" = some (some (.ref f__law_draw)))
    (l__law_draw : K.lookup f__law_draw = some ⟨oc__law_draw, od__law_draw, .func (fnOf "_law_draw" "_law_draw" (defArgs s__law_draw) (defBody s__law_draw) (defScope s__law_draw) .none kV__law_draw dc__law_draw pm__law_draw an__law_draw cd__law_draw ct__law_draw), sl__law_draw⟩)
    (e__law_draw : codeIn K cd__law_draw "_law_draw" = true)
    (k__law_draw : keepIn K (.ref f__law_draw) = true)
    (a__law_pick : nsIn K mainGlobals "_law_pick" = some (some (.ref f__law_pick)))
    (l__law_pick : K.lookup f__law_pick = some ⟨oc__law_pick, od__law_pick, .func (fnOf "_law_pick" "_law_pick" (defArgs s__law_pick) (defBody s__law_pick) (defScope s__law_pick) .none kV__law_pick dc__law_pick pm__law_pick an__law_pick cd__law_pick ct__law_pick), sl__law_pick⟩)
    (e__law_pick : codeIn K cd__law_pick "_law_pick" = true)
    (k__law_pick : keepIn K (.ref f__law_pick) = true)
    (a__law_fraction_text : nsIn K mainGlobals "_law_fraction_text" = some (some (.ref f__law_fraction_text)))
    (l__law_fraction_text : K.lookup f__law_fraction_text = some ⟨oc__law_fraction_text, od__law_fraction_text, .func (fnOf "_law_fraction_text" "_law_fraction_text" (defArgs s__law_fraction_text) (defBody s__law_fraction_text) (defScope s__law_fraction_text) .none kV__law_fraction_text dc__law_fraction_text pm__law_fraction_text an__law_fraction_text cd__law_fraction_text ct__law_fraction_text), sl__law_fraction_text⟩)
    (e__law_fraction_text : codeIn K cd__law_fraction_text "_law_fraction_text" = true)
    (k__law_fraction_text : keepIn K (.ref f__law_fraction_text) = true)
    (a__law_text : nsIn K mainGlobals "_law_text" = some (some (.ref f__law_text)))
    (l__law_text : K.lookup f__law_text = some ⟨oc__law_text, od__law_text, .func (fnOf "_law_text" "_law_text" (defArgs s__law_text) (defBody s__law_text) (defScope s__law_text) .none kV__law_text dc__law_text pm__law_text an__law_text cd__law_text ct__law_text), sl__law_text⟩)
    (e__law_text : codeIn K cd__law_text "_law_text" = true)
    (k__law_text : keepIn K (.ref f__law_text) = true)
    (a__law_lowest : nsIn K mainGlobals "_law_lowest" = some (some (.ref f__law_lowest)))
    (l__law_lowest : K.lookup f__law_lowest = some ⟨oc__law_lowest, od__law_lowest, .func (fnOf "_law_lowest" "_law_lowest" (defArgs s__law_lowest) (defBody s__law_lowest) (defScope s__law_lowest) .none kV__law_lowest dc__law_lowest pm__law_lowest an__law_lowest cd__law_lowest ct__law_lowest), sl__law_lowest⟩)
    (e__law_lowest : codeIn K cd__law_lowest "_law_lowest" = true)
    (k__law_lowest : keepIn K (.ref f__law_lowest) = true)
    (a__law_text_fraction : nsIn K mainGlobals "_law_text_fraction" = some (some (.ref f__law_text_fraction)))
    (l__law_text_fraction : K.lookup f__law_text_fraction = some ⟨oc__law_text_fraction, od__law_text_fraction, .func (fnOf "_law_text_fraction" "_law_text_fraction" (defArgs s__law_text_fraction) (defBody s__law_text_fraction) (defScope s__law_text_fraction) .none kV__law_text_fraction dc__law_text_fraction pm__law_text_fraction an__law_text_fraction cd__law_text_fraction ct__law_text_fraction), sl__law_text_fraction⟩)
    (e__law_text_fraction : codeIn K cd__law_text_fraction "_law_text_fraction" = true)
    (k__law_text_fraction : keepIn K (.ref f__law_text_fraction) = true)
    (a__law_expression : nsIn K mainGlobals "_law_expression" = some (some (.ref f__law_expression)))
    (l__law_expression : K.lookup f__law_expression = some ⟨oc__law_expression, od__law_expression, .func (fnOf "_law_expression" "_law_expression" (defArgs s__law_expression) (defBody s__law_expression) (defScope s__law_expression) .none kV__law_expression dc__law_expression pm__law_expression an__law_expression cd__law_expression ct__law_expression), sl__law_expression⟩)
    (e__law_expression : codeIn K cd__law_expression "_law_expression" = true)
    (k__law_expression : keepIn K (.ref f__law_expression) = true)
    (a__law_letters : nsIn K mainGlobals "_law_letters" = some (some (.ref f__law_letters)))
    (l__law_letters : K.lookup f__law_letters = some ⟨oc__law_letters, od__law_letters, .func (fnOf "_law_letters" "_law_letters" (defArgs s__law_letters) (defBody s__law_letters) (defScope s__law_letters) .none kV__law_letters dc__law_letters pm__law_letters an__law_letters cd__law_letters ct__law_letters), sl__law_letters⟩)
    (e__law_letters : codeIn K cd__law_letters "_law_letters" = true)
    (k__law_letters : keepIn K (.ref f__law_letters) = true)
    (a__law_names : nsIn K mainGlobals "_law_names" = some (some (.ref f__law_names)))
    (l__law_names : K.lookup f__law_names = some ⟨oc__law_names, od__law_names, .func (fnOf "_law_names" "_law_names" (defArgs s__law_names) (defBody s__law_names) (defScope s__law_names) .none kV__law_names dc__law_names pm__law_names an__law_names cd__law_names ct__law_names), sl__law_names⟩)
    (e__law_names : codeIn K cd__law_names "_law_names" = true)
    (k__law_names : keepIn K (.ref f__law_names) = true)
    (a__law_altered : nsIn K mainGlobals "_law_altered" = some (some (.ref f__law_altered)))
    (l__law_altered : K.lookup f__law_altered = some ⟨oc__law_altered, od__law_altered, .func (fnOf "_law_altered" "_law_altered" (defArgs s__law_altered) (defBody s__law_altered) (defScope s__law_altered) .none kV__law_altered dc__law_altered pm__law_altered an__law_altered cd__law_altered ct__law_altered), sl__law_altered⟩)
    (e__law_altered : codeIn K cd__law_altered "_law_altered" = true)
    (k__law_altered : keepIn K (.ref f__law_altered) = true)
    (a_char_at : nsIn K mainGlobals "char_at" = some (some (.ref f_char_at)))
    (l_char_at : K.lookup f_char_at = some ⟨oc_char_at, od_char_at, .func (fnOf "char_at" "char_at" (defArgs s_char_at) (defBody s_char_at) (defScope s_char_at) .none kV_char_at dc_char_at pm_char_at an_char_at cd_char_at ct_char_at), sl_char_at⟩)
    (e_char_at : codeIn K cd_char_at "char_at" = true)
    (k_char_at : keepIn K (.ref f_char_at) = true)
    (a_scan_exact : nsIn K mainGlobals "scan_exact" = some (some (.ref f_scan_exact)))
    (l_scan_exact : K.lookup f_scan_exact = some ⟨oc_scan_exact, od_scan_exact, .func (fnOf "scan_exact" "scan_exact" (defArgs s_scan_exact) (defBody s_scan_exact) (defScope s_scan_exact) .none kV_scan_exact dc_scan_exact pm_scan_exact an_scan_exact cd_scan_exact ct_scan_exact), sl_scan_exact⟩)
    (e_scan_exact : codeIn K cd_scan_exact "scan_exact" = true)
    (k_scan_exact : keepIn K (.ref f_scan_exact) = true)
    (a_parse_pair : nsIn K mainGlobals "parse_pair" = some (some (.ref f_parse_pair)))
    (l_parse_pair : K.lookup f_parse_pair = some ⟨oc_parse_pair, od_parse_pair, .func (fnOf "parse_pair" "parse_pair" (defArgs s_parse_pair) (defBody s_parse_pair) (defScope s_parse_pair) .none kV_parse_pair dc_parse_pair pm_parse_pair an_parse_pair cd_parse_pair ct_parse_pair), sl_parse_pair⟩)
    (e_parse_pair : codeIn K cd_parse_pair "parse_pair" = true)
    (k_parse_pair : keepIn K (.ref f_parse_pair) = true)
    (a_is_name : nsIn K mainGlobals "is_name" = some (some (.ref f_is_name)))
    (l_is_name : K.lookup f_is_name = some ⟨oc_is_name, od_is_name, .func (fnOf "is_name" "is_name" (defArgs s_is_name) (defBody s_is_name) (defScope s_is_name) .none kV_is_name dc_is_name pm_is_name an_is_name cd_is_name ct_is_name), sl_is_name⟩)
    (e_is_name : codeIn K cd_is_name "is_name" = true)
    (k_is_name : keepIn K (.ref f_is_name) = true)
    (a_parse_word : nsIn K mainGlobals "parse_word" = some (some (.ref f_parse_word)))
    (l_parse_word : K.lookup f_parse_word = some ⟨oc_parse_word, od_parse_word, .func (fnOf "parse_word" "parse_word" (defArgs s_parse_word) (defBody s_parse_word) (defScope s_parse_word) .none kV_parse_word dc_parse_word pm_parse_word an_parse_word cd_parse_word ct_parse_word), sl_parse_word⟩)
    (e_parse_word : codeIn K cd_parse_word "parse_word" = true)
    (k_parse_word : keepIn K (.ref f_parse_word) = true)
    (a_is_decimal : nsIn K mainGlobals "is_decimal" = some (some (.ref f_is_decimal)))
    (l_is_decimal : K.lookup f_is_decimal = some ⟨oc_is_decimal, od_is_decimal, .func (fnOf "is_decimal" "is_decimal" (defArgs s_is_decimal) (defBody s_is_decimal) (defScope s_is_decimal) .none kV_is_decimal dc_is_decimal pm_is_decimal an_is_decimal cd_is_decimal ct_is_decimal), sl_is_decimal⟩)
    (e_is_decimal : codeIn K cd_is_decimal "is_decimal" = true)
    (k_is_decimal : keepIn K (.ref f_is_decimal) = true)
    (a_scan_number : nsIn K mainGlobals "scan_number" = some (some (.ref f_scan_number)))
    (l_scan_number : K.lookup f_scan_number = some ⟨oc_scan_number, od_scan_number, .func (fnOf "scan_number" "scan_number" (defArgs s_scan_number) (defBody s_scan_number) (defScope s_scan_number) .none kV_scan_number dc_scan_number pm_scan_number an_scan_number cd_scan_number ct_scan_number), sl_scan_number⟩)
    (e_scan_number : codeIn K cd_scan_number "scan_number" = true)
    (k_scan_number : keepIn K (.ref f_scan_number) = true)
    (a_common_divisor : nsIn K mainGlobals "common_divisor" = some (some (.ref f_common_divisor)))
    (l_common_divisor : K.lookup f_common_divisor = some ⟨oc_common_divisor, od_common_divisor, .func (fnOf "common_divisor" "common_divisor" (defArgs s_common_divisor) (defBody s_common_divisor) (defScope s_common_divisor) .none kV_common_divisor dc_common_divisor pm_common_divisor an_common_divisor cd_common_divisor ct_common_divisor), sl_common_divisor⟩)
    (e_common_divisor : codeIn K cd_common_divisor "common_divisor" = true)
    (k_common_divisor : keepIn K (.ref f_common_divisor) = true)
    (a_scan_fraction : nsIn K mainGlobals "scan_fraction" = some (some (.ref f_scan_fraction)))
    (l_scan_fraction : K.lookup f_scan_fraction = some ⟨oc_scan_fraction, od_scan_fraction, .func (fnOf "scan_fraction" "scan_fraction" (defArgs s_scan_fraction) (defBody s_scan_fraction) (defScope s_scan_fraction) .none kV_scan_fraction dc_scan_fraction pm_scan_fraction an_scan_fraction cd_scan_fraction ct_scan_fraction), sl_scan_fraction⟩)
    (e_scan_fraction : codeIn K cd_scan_fraction "scan_fraction" = true)
    (k_scan_fraction : keepIn K (.ref f_scan_fraction) = true)
    (a_parse_part : nsIn K mainGlobals "parse_part" = some (some (.ref f_parse_part)))
    (l_parse_part : K.lookup f_parse_part = some ⟨oc_parse_part, od_parse_part, .func (fnOf "parse_part" "parse_part" (defArgs s_parse_part) (defBody s_parse_part) (defScope s_parse_part) .none kV_parse_part dc_parse_part pm_parse_part an_parse_part cd_parse_part ct_parse_part), sl_parse_part⟩)
    (e_parse_part : codeIn K cd_parse_part "parse_part" = true)
    (k_parse_part : keepIn K (.ref f_parse_part) = true)
    (a_parse_expression : nsIn K mainGlobals "parse_expression" = some (some (.ref f_parse_expression)))
    (l_parse_expression : K.lookup f_parse_expression = some ⟨oc_parse_expression, od_parse_expression, .func (fnOf "parse_expression" "parse_expression" (defArgs s_parse_expression) (defBody s_parse_expression) (defScope s_parse_expression) .none kV_parse_expression dc_parse_expression pm_parse_expression an_parse_expression cd_parse_expression ct_parse_expression), sl_parse_expression⟩)
    (e_parse_expression : codeIn K cd_parse_expression "parse_expression" = true)
    (k_parse_expression : keepIn K (.ref f_parse_expression) = true)
    (a__law_same : nsIn K mainGlobals "_law_same" = some (some (.ref f__law_same)))
    (l__law_same : K.lookup f__law_same = some ⟨oc__law_same, od__law_same, .func (fnOf "_law_same" "_law_same" (defArgs s__law_same) (defBody s__law_same) (defScope s__law_same) .none kV__law_same dc__law_same pm__law_same an__law_same cd__law_same ct__law_same), sl__law_same⟩)
    (e__law_same : codeIn K cd__law_same "_law_same" = true)
    (k__law_same : keepIn K (.ref f__law_same) = true)
    (a__law_at : nsIn K mainGlobals "_law_at" = some (some (.ref f__law_at)))
    (l__law_at : K.lookup f__law_at = some ⟨oc__law_at, od__law_at, .func (fnOf "_law_at" "_law_at" (defArgs s__law_at) (defBody s__law_at) (defScope s__law_at) .none kV__law_at dc__law_at pm__law_at an__law_at cd__law_at ct__law_at), sl__law_at⟩)
    (e__law_at : codeIn K cd__law_at "_law_at" = true)
    (k__law_at : keepIn K (.ref f__law_at) = true)
    (a__law_fits : nsIn K mainGlobals "_law_fits" = some (some (.ref f__law_fits)))
    (l__law_fits : K.lookup f__law_fits = some ⟨oc__law_fits, od__law_fits, .func (fnOf "_law_fits" "_law_fits" (defArgs s__law_fits) (defBody s__law_fits) (defScope s__law_fits) .none kV__law_fits dc__law_fits pm__law_fits an__law_fits cd__law_fits ct__law_fits), sl__law_fits⟩)
    (e__law_fits : codeIn K cd__law_fits "_law_fits" = true)
    (k__law_fits : keepIn K (.ref f__law_fits) = true)
    (a__law_scan_pair : nsIn K mainGlobals "_law_scan_pair" = some (some (.ref f__law_scan_pair)))
    (l__law_scan_pair : K.lookup f__law_scan_pair = some ⟨oc__law_scan_pair, od__law_scan_pair, .func (fnOf "_law_scan_pair" "_law_scan_pair" (defArgs s__law_scan_pair) (defBody s__law_scan_pair) (defScope s__law_scan_pair) .none kV__law_scan_pair dc__law_scan_pair pm__law_scan_pair an__law_scan_pair cd__law_scan_pair ct__law_scan_pair), sl__law_scan_pair⟩)
    (e__law_scan_pair : codeIn K cd__law_scan_pair "_law_scan_pair" = true)
    (k__law_scan_pair : keepIn K (.ref f__law_scan_pair) = true)
    (a__law_is_name : nsIn K mainGlobals "_law_is_name" = some (some (.ref f__law_is_name)))
    (l__law_is_name : K.lookup f__law_is_name = some ⟨oc__law_is_name, od__law_is_name, .func (fnOf "_law_is_name" "_law_is_name" (defArgs s__law_is_name) (defBody s__law_is_name) (defScope s__law_is_name) .none kV__law_is_name dc__law_is_name pm__law_is_name an__law_is_name cd__law_is_name ct__law_is_name), sl__law_is_name⟩)
    (e__law_is_name : codeIn K cd__law_is_name "_law_is_name" = true)
    (k__law_is_name : keepIn K (.ref f__law_is_name) = true)
    (a__law_scan_word : nsIn K mainGlobals "_law_scan_word" = some (some (.ref f__law_scan_word)))
    (l__law_scan_word : K.lookup f__law_scan_word = some ⟨oc__law_scan_word, od__law_scan_word, .func (fnOf "_law_scan_word" "_law_scan_word" (defArgs s__law_scan_word) (defBody s__law_scan_word) (defScope s__law_scan_word) .none kV__law_scan_word dc__law_scan_word pm__law_scan_word an__law_scan_word cd__law_scan_word ct__law_scan_word), sl__law_scan_word⟩)
    (e__law_scan_word : codeIn K cd__law_scan_word "_law_scan_word" = true)
    (k__law_scan_word : keepIn K (.ref f__law_scan_word) = true)
    (a__law_figures : nsIn K mainGlobals "_law_figures" = some (some (.ref f__law_figures)))
    (l__law_figures : K.lookup f__law_figures = some ⟨oc__law_figures, od__law_figures, .func (fnOf "_law_figures" "_law_figures" (defArgs s__law_figures) (defBody s__law_figures) (defScope s__law_figures) .none kV__law_figures dc__law_figures pm__law_figures an__law_figures cd__law_figures ct__law_figures), sl__law_figures⟩)
    (e__law_figures : codeIn K cd__law_figures "_law_figures" = true)
    (k__law_figures : keepIn K (.ref f__law_figures) = true)
    (a__law_scan_fraction : nsIn K mainGlobals "_law_scan_fraction" = some (some (.ref f__law_scan_fraction)))
    (l__law_scan_fraction : K.lookup f__law_scan_fraction = some ⟨oc__law_scan_fraction, od__law_scan_fraction, .func (fnOf "_law_scan_fraction" "_law_scan_fraction" (defArgs s__law_scan_fraction) (defBody s__law_scan_fraction) (defScope s__law_scan_fraction) .none kV__law_scan_fraction dc__law_scan_fraction pm__law_scan_fraction an__law_scan_fraction cd__law_scan_fraction ct__law_scan_fraction), sl__law_scan_fraction⟩)
    (e__law_scan_fraction : codeIn K cd__law_scan_fraction "_law_scan_fraction" = true)
    (k__law_scan_fraction : keepIn K (.ref f__law_scan_fraction) = true)
    (a__law_scan : nsIn K mainGlobals "_law_scan" = some (some (.ref f__law_scan)))
    (l__law_scan : K.lookup f__law_scan = some ⟨oc__law_scan, od__law_scan, .func (fnOf "_law_scan" "_law_scan" (defArgs s__law_scan) (defBody s__law_scan) (defScope s__law_scan) .none kV__law_scan dc__law_scan pm__law_scan an__law_scan cd__law_scan ct__law_scan), sl__law_scan⟩)
    (e__law_scan : codeIn K cd__law_scan "_law_scan" = true)
    (k__law_scan : keepIn K (.ref f__law_scan) = true)
    (a__law_due : nsIn K mainGlobals "_law_due" = some (some (.ref f__law_due)))
    (l__law_due : K.lookup f__law_due = some ⟨oc__law_due, od__law_due, .func (fnOf "_law_due" "_law_due" (defArgs s__law_due) (defBody s__law_due) (defScope s__law_due) .none kV__law_due dc__law_due pm__law_due an__law_due cd__law_due ct__law_due), sl__law_due⟩)
    (e__law_due : codeIn K cd__law_due "_law_due" = true)
    (k__law_due : keepIn K (.ref f__law_due) = true)
    (a_law : nsIn K mainGlobals "law" = some (some (.ref f_law)))
    (l_law : K.lookup f_law = some ⟨oc_law, od_law, .func (fnOf "law" "law" (defArgs s_law) (defBody s_law) (defScope s_law) .none kV_law dc_law pm_law an_law (.ref c) ct_law), sl_law⟩)
    (e_law : codeIn K (.ref c) "law" = true)
    (k_law : keepIn K (.ref f_law) = true)
    (a__law_outcome : nsIn K mainGlobals "_law_outcome" = some (some (.ref f__law_outcome)))
    (l__law_outcome : K.lookup f__law_outcome = some ⟨oc__law_outcome, od__law_outcome, .func (fnOf "_law_outcome" "_law_outcome" (defArgs s__law_outcome) (defBody s__law_outcome) (defScope s__law_outcome) .none kV__law_outcome dc__law_outcome pm__law_outcome an__law_outcome cd__law_outcome ct__law_outcome), sl__law_outcome⟩)
    (e__law_outcome : codeIn K cd__law_outcome "_law_outcome" = true)
    (k__law_outcome : keepIn K (.ref f__law_outcome) = true)
    (a__law_field : nsIn K mainGlobals "_law_field" = some (some (.ref f__law_field)))
    (l__law_field : K.lookup f__law_field = some ⟨oc__law_field, od__law_field, .func (fnOf "_law_field" "_law_field" (defArgs s__law_field) (defBody s__law_field) (defScope s__law_field) .none kV__law_field dc__law_field pm__law_field an__law_field cd__law_field ct__law_field), sl__law_field⟩)
    (e__law_field : codeIn K cd__law_field "_law_field" = true)
    (k__law_field : keepIn K (.ref f__law_field) = true)
    (z_len : nsIn K mainGlobals "len" = some none)
    (z_list : nsIn K mainGlobals "list" = some none)
    (z_str : nsIn K mainGlobals "str" = some none)
    (z_abs : nsIn K mainGlobals "abs" = some none)
    (z_range : nsIn K mainGlobals "range" = some none)
    (z_all : nsIn K mainGlobals "all" = some none)
    (z_int : nsIn K mainGlobals "int" = some none)
    (z_isinstance : nsIn K mainGlobals "isinstance" = some none)
    (z_tuple : nsIn K mainGlobals "tuple" = some none)
    (z_zip : nsIn K mainGlobals "zip" = some none)
    (z_bool : nsIn K mainGlobals "bool" = some none)
    {t_MIN_NAME : Tok}
    (q_MIN_NAME : nsIn K mainGlobals "MIN_NAME" = some (some (.int 2 t_MIN_NAME)))
    {t_MAX_NAME : Tok}
    (q_MAX_NAME : nsIn K mainGlobals "MAX_NAME" = some (some (.int 8 t_MAX_NAME)))
    {t_LETTERS : Tok}
    (q_LETTERS : nsIn K mainGlobals "LETTERS" = some (some (.str "abcdefghijklmnopqrstuvwxyz" t_LETTERS)))
    {t_VARIABLE : Tok}
    (q_VARIABLE : nsIn K mainGlobals "VARIABLE" = some (some (.str "x" t_VARIABLE)))
    {t_DECIMALS : Tok}
    (q_DECIMALS : nsIn K mainGlobals "DECIMALS" = some (some (.str "0123456789" t_DECIMALS)))
    {t_MAX_FIGURES : Tok}
    (q_MAX_FIGURES : nsIn K mainGlobals "MAX_FIGURES" = some (some (.int 6 t_MAX_FIGURES)))
    {t_MAX_DEPTH : Tok}
    (q_MAX_DEPTH : nsIn K mainGlobals "MAX_DEPTH" = some (some (.int 12 t_MAX_DEPTH)))
    {r_WORDS : Addr} {es_WORDS : Array DictEntry} {n_WORDS : Nat}
    (q_WORDS : nsIn K mainGlobals "WORDS" = some (some (.ref r_WORDS)))
    (l_WORDS : K.lookup r_WORDS = some ⟨.type "dict", none, .dict es_WORDS n_WORDS, #[]⟩)
    (y_WORDS : KeysLit w.params es_WORDS.toList)
    (s_WORDS : (r_WORDS == sysModules) = false)
    (w_WORDS : es_WORDS.toList.map DL.keyS = ks_WORDS.map some)
    (u_WORDS : es_WORDS.toList.map DL.keyV = kv_WORDS.map some)
    (ae1 : nsIn K mainGlobals "EarlyError" = some (some (.ref e1)))
    (ae2 : nsIn K mainGlobals "UndefinedName" = some (some (.ref e2)))
    (ae3 : nsIn K mainGlobals "EmptyHistory" = some (some (.ref e3)))
    (xb1 : subIn K (.ref e1) (.type "BaseException") = some true)
    (xi1 : isClsIn K e1 = true)
    (xt1 : typeIn K (.ref e1) = some (.type "type"))
    (xb2 : subIn K (.ref e2) (.type "BaseException") = some true)
    (xi2 : isClsIn K e2 = true)
    (xt2 : typeIn K (.ref e2) = some (.type "type"))
    (xb3 : subIn K (.ref e3) (.type "BaseException") = some true)
    (xi3 : isClsIn K e3 = true)
    (xt3 : typeIn K (.ref e3) = some (.type "type"))
    {cdd : Option Addr} {cvs : Array Value} {csl : Array (Option Value)} {cfl : Str} {cft cgt ctt : Tok} {cgn ctn : Int} {cbf : Bool}
    (lc : K.lookup c = some ⟨.type "code", cdd, .fields cvs, csl⟩)
    (pc : cvs[11]? = some (.ref Pt))
    (pd : cvs.getD 11 .none = .ref Pt)
    (p18 : cvs.getD 18 .none = .str cfl cft)
    (p7 : cvs.getD 7 .none = .int cgn cgt)
    (p9 : cvs.getD 9 .none = .bool cbf)
    (p10 : cvs.getD 10 .none = .int ctn ctt)
    (pne : c ≠ Pt)
    (nP : K.lookup Pt = none)
    {nm_InvalidText q_InvalidText : Str} {bs_InvalidText bm_InvalidText sb_InvalidText : List Value} {sn_InvalidText : List Str} {ab_InvalidText : Bool} {co_InvalidText : Option Bool} {dd_InvalidText : Option Addr} {k0_InvalidText k1_InvalidText k2_InvalidText k3_InvalidText k5_InvalidText : Option Value}
    (a_InvalidText : nsIn K mainGlobals "InvalidText" = some (some (.ref C_InvalidText)))
    (oe_InvalidText : K.lookup C_InvalidText = some (excClassObj nm_InvalidText q_InvalidText C_InvalidText N_InvalidText bs_InvalidText bm_InvalidText true sn_InvalidText sb_InvalidText ab_InvalidText co_InvalidText dd_InvalidText k0_InvalidText k1_InvalidText k2_InvalidText k3_InvalidText k5_InvalidText "ValueError.__new__"))
    (vm_InvalidText : PySem.HandSPX.refsVE bm_InvalidText = true)
    (sa_InvalidText : findIn K (.ref C_InvalidText) "__setattr__" = some (some (.builtin "object.__setattr__")))
    (eC_InvalidText : subIn K (.ref C_InvalidText) (.type "BaseException") = some true)
    (tC_InvalidText : typeIn K (.ref C_InvalidText) = some (.type "type"))
    (kC_InvalidText : keepIn K (.ref C_InvalidText) = true)
    (ii_InvalidText : findIn K (.ref C_InvalidText) "__init__" = some (some (.ref i_InvalidText)))
    (ti_InvalidText : typeIn K (.ref i_InvalidText) = some (.type "function"))
    (tg_InvalidText : findIn K (.ref C_InvalidText) "tag" = some none)
    (fl_InvalidText : findIn K (.ref C_InvalidText) "position" = some none)
    (ga_InvalidText : findIn K (.ref C_InvalidText) "__getattribute__" = some (some (.builtin "BaseException.__getattribute__")))
    (gg_InvalidText : findIn K (.ref C_InvalidText) "__getattr__" = some none)
    (hd_InvalidText : hasDictIn K C_InvalidText = true)
    (li_InvalidText : K.lookup i_InvalidText = some ⟨oc_InvalidText, od_InvalidText, .func (fnOf "__init__" "InvalidText.__init__" (defArgs (si_InvalidText)) (defBody (si_InvalidText)) (defScope (si_InvalidText)) .none kV_InvalidText dc_InvalidText pm_InvalidText an_InvalidText cd_InvalidText ct_InvalidText), sl_InvalidText⟩)
    (ci_InvalidText : codeIn K cd_InvalidText "InvalidText.__init__" = true)
    (ki_InvalidText : keepIn K (.ref i_InvalidText) = true)
    (em1_InvalidText : subIn K (.ref C_InvalidText) (.ref e1) = some true)
    (em2_InvalidText : subIn K (.ref C_InvalidText) (.ref e2) = some false)
    (em3_InvalidText : subIn K (.ref C_InvalidText) (.ref e3) = some false)
    (hm : LawGood m_law) : LamX.LawAtS l w K (L2.CX l.prog w) 36 63 "_law_script" mg fa h := by
  have e := hfa.symm.trans (PySem.W.mg_of X G a_law)
  cases e
  let M : Mx := ⟨K, mg, fun s => if s = "InvalidText" then C_InvalidText else 0, [(Pt, lamQ "law")], w⟩
  have hc_InvalidText : M.ca "InvalidText" = C_InvalidText := show (if ("InvalidText" : Str) = "InvalidText" then C_InvalidText else 0) = C_InvalidText from (if_pos rfl)
  have F_InvalidText := fun_mk (st := si_InvalidText) li_InvalidText ci_InvalidText ki_InvalidText
  have B_InvalidText := F_InvalidText.binds (ps := ["self", "position"]) fun _ _ _ _ _ _ us hl => match us, hl with | [_, _], _ => rfl
  let T : Tx M w := ⟨rfl,
    PySem.W.mg_none_of X G z_len,
    PySem.W.mg_none_of X G z_list,
    PySem.W.mg_none_of X G z_str,
    PySem.W.mg_none_of X G z_abs,
    PySem.W.mg_none_of X G z_range,
    PySem.W.mg_none_of X G z_all,
    PySem.W.mg_none_of X G z_int,
    PySem.W.mg_none_of X G z_isinstance,
    PySem.W.mg_none_of X G z_tuple,
    PySem.W.mg_none_of X G z_zip,
    PySem.W.mg_none_of X G z_bool,
    KCon.int (PySem.W.mg_of X G q_MIN_NAME),
    KCon.int (PySem.W.mg_of X G q_MAX_NAME),
    KCon.str (PySem.W.mg_of X G q_LETTERS),
    KCon.str (PySem.W.mg_of X G q_VARIABLE),
    KCon.str (PySem.W.mg_of X G q_DECIMALS),
    KCon.int (PySem.W.mg_of X G q_MAX_FIGURES),
    KCon.int (PySem.W.mg_of X G q_MAX_DEPTH),
    dctK_of (PySem.W.mg_of X G q_WORDS) l_WORDS y_WORDS s_WORDS w_WORDS,
    dctV_of (PySem.W.mg_of X G q_WORDS) l_WORDS y_WORDS s_WORDS u_WORDS,
    excAt C_InvalidText hc_InvalidText i_InvalidText _ (PySem.W.mg_of X G a_InvalidText) ⟨⟨nm_InvalidText, q_InvalidText, N_InvalidText, bs_InvalidText, bm_InvalidText, sn_InvalidText, sb_InvalidText, ab_InvalidText, co_InvalidText, dd_InvalidText, k0_InvalidText, k1_InvalidText, k2_InvalidText, k3_InvalidText, k5_InvalidText, oe_InvalidText, vm_InvalidText⟩, sa_InvalidText, eC_InvalidText, tC_InvalidText, kC_InvalidText⟩ ii_InvalidText ti_InvalidText tg_InvalidText (fun ws f hf => (List.mem_cons.mp hf).elim (fun q => by rw [q]; exact fl_InvalidText) fun q => by rw [List.mem_singleton.mp q]; exact tg_InvalidText) ⟨ga_InvalidText, gg_InvalidText, eC_InvalidText, hd_InvalidText⟩ B_InvalidText (fun P w base => init2 F_InvalidText sci_InvalidText rfl (by unfold Vis; decide +kernel) (by unfold Vis; decide +kernel) (by decide +kernel) (by decide +kernel))⟩
  have F__law_begin := fun_mk (st := s__law_begin) l__law_begin e__law_begin k__law_begin
  have B__law_begin := F__law_begin.binds (ps := ["_law_script"]) fun _ _ _ _ _ _ us hl => match us, hl with | [_], _ => rfl
  have F__law_draw := fun_mk (st := s__law_draw) l__law_draw e__law_draw k__law_draw
  have B__law_draw := F__law_draw.binds (ps := ["_law_rng", "_law_many"]) fun _ _ _ _ _ _ us hl => match us, hl with | [_, _], _ => rfl
  have F__law_pick := fun_mk (st := s__law_pick) l__law_pick e__law_pick k__law_pick
  have B__law_pick := F__law_pick.binds (ps := ["_law_rng", "_law_items"]) fun _ _ _ _ _ _ us hl => match us, hl with | [_, _], _ => rfl
  have F__law_fraction_text := fun_mk (st := s__law_fraction_text) l__law_fraction_text e__law_fraction_text k__law_fraction_text
  have B__law_fraction_text := F__law_fraction_text.binds (ps := ["_law_value"]) fun _ _ _ _ _ _ us hl => match us, hl with | [_], _ => rfl
  have F__law_text := fun_mk (st := s__law_text) l__law_text e__law_text k__law_text
  have B__law_text := F__law_text.binds (ps := ["_law_expression_here"]) fun _ _ _ _ _ _ us hl => match us, hl with | [_], _ => rfl
  have F__law_lowest := fun_mk (st := s__law_lowest) l__law_lowest e__law_lowest k__law_lowest
  have B__law_lowest := F__law_lowest.binds (ps := ["_law_above", "_law_below"]) fun _ _ _ _ _ _ us hl => match us, hl with | [_, _], _ => rfl
  have F__law_text_fraction := fun_mk (st := s__law_text_fraction) l__law_text_fraction e__law_text_fraction k__law_text_fraction
  have B__law_text_fraction := F__law_text_fraction.binds (ps := ["_law_rng"]) fun _ _ _ _ _ _ us hl => match us, hl with | [_], _ => rfl
  have F__law_expression := fun_mk (st := s__law_expression) l__law_expression e__law_expression k__law_expression
  have B__law_expression := F__law_expression.binds (ps := ["_law_rng", "_law_names_here", "_law_depth"]) fun _ _ _ _ _ _ us hl => match us, hl with | [_, _, _], _ => rfl
  have F__law_letters := fun_mk (st := s__law_letters) l__law_letters e__law_letters k__law_letters
  have B__law_letters := F__law_letters.binds (ps := []) fun _ _ _ _ _ _ us hl => match us, hl with | [], _ => rfl
  have F__law_names := fun_mk (st := s__law_names) l__law_names e__law_names k__law_names
  have B__law_names := F__law_names.binds (ps := ["_law_rng", "_law_many"]) fun _ _ _ _ _ _ us hl => match us, hl with | [_, _], _ => rfl
  have F__law_altered := fun_mk (st := s__law_altered) l__law_altered e__law_altered k__law_altered
  have B__law_altered := F__law_altered.binds (ps := ["_law_rng", "_law_text_here"]) fun _ _ _ _ _ _ us hl => match us, hl with | [_, _], _ => rfl
  have F_char_at := fun_mk (st := s_char_at) l_char_at e_char_at k_char_at
  have B_char_at := F_char_at.binds (ps := ["text", "position"]) fun _ _ _ _ _ _ us hl => match us, hl with | [_, _], _ => rfl
  have F_scan_exact := fun_mk (st := s_scan_exact) l_scan_exact e_scan_exact k_scan_exact
  have B_scan_exact := F_scan_exact.binds (ps := ["text", "position", "wanted"]) fun _ _ _ _ _ _ us hl => match us, hl with | [_, _, _], _ => rfl
  have F_parse_pair := fun_mk (st := s_parse_pair) l_parse_pair e_parse_pair k_parse_pair
  have B_parse_pair := F_parse_pair.binds (ps := ["text", "position", "level"]) fun _ _ _ _ _ _ us hl => match us, hl with | [_, _, _], _ => rfl
  have F_is_name := fun_mk (st := s_is_name) l_is_name e_is_name k_is_name
  have B_is_name := F_is_name.binds (ps := ["text"]) fun _ _ _ _ _ _ us hl => match us, hl with | [_], _ => rfl
  have F_parse_word := fun_mk (st := s_parse_word) l_parse_word e_parse_word k_parse_word
  have B_parse_word := F_parse_word.binds (ps := ["text", "position", "level"]) fun _ _ _ _ _ _ us hl => match us, hl with | [_, _, _], _ => rfl
  have F_is_decimal := fun_mk (st := s_is_decimal) l_is_decimal e_is_decimal k_is_decimal
  have B_is_decimal := F_is_decimal.binds (ps := ["char"]) fun _ _ _ _ _ _ us hl => match us, hl with | [_], _ => rfl
  have F_scan_number := fun_mk (st := s_scan_number) l_scan_number e_scan_number k_scan_number
  have B_scan_number := F_scan_number.binds (ps := ["text", "position"]) fun _ _ _ _ _ _ us hl => match us, hl with | [_, _], _ => rfl
  have F_common_divisor := fun_mk (st := s_common_divisor) l_common_divisor e_common_divisor k_common_divisor
  have B_common_divisor := F_common_divisor.binds (ps := ["one", "other"]) fun _ _ _ _ _ _ us hl => match us, hl with | [_, _], _ => rfl
  have F_scan_fraction := fun_mk (st := s_scan_fraction) l_scan_fraction e_scan_fraction k_scan_fraction
  have B_scan_fraction := F_scan_fraction.binds (ps := ["text", "position"]) fun _ _ _ _ _ _ us hl => match us, hl with | [_, _], _ => rfl
  have F_parse_part := fun_mk (st := s_parse_part) l_parse_part e_parse_part k_parse_part
  have B_parse_part := F_parse_part.binds (ps := ["text", "position", "level"]) fun _ _ _ _ _ _ us hl => match us, hl with | [_, _, _], _ => rfl
  have F_parse_expression := fun_mk (st := s_parse_expression) l_parse_expression e_parse_expression k_parse_expression
  have B_parse_expression := F_parse_expression.binds (ps := ["text"]) fun _ _ _ _ _ _ us hl => match us, hl with | [_], _ => rfl
  have F__law_same := fun_mk (st := s__law_same) l__law_same e__law_same k__law_same
  have B__law_same := F__law_same.binds (ps := ["_law_found", "_law_due_here"]) fun _ _ _ _ _ _ us hl => match us, hl with | [_, _], _ => rfl
  have F__law_at := fun_mk (st := s__law_at) l__law_at e__law_at k__law_at
  have B__law_at := F__law_at.binds (ps := ["_law_text_here", "_law_k"]) fun _ _ _ _ _ _ us hl => match us, hl with | [_, _], _ => rfl
  have F__law_fits := fun_mk (st := s__law_fits) l__law_fits e__law_fits k__law_fits
  have B__law_fits := F__law_fits.binds (ps := ["_law_text_here", "_law_k", "_law_word"]) fun _ _ _ _ _ _ us hl => match us, hl with | [_, _, _], _ => rfl
  have F__law_scan_pair := fun_mk (st := s__law_scan_pair) l__law_scan_pair e__law_scan_pair k__law_scan_pair
  have B__law_scan_pair := F__law_scan_pair.binds (ps := ["_law_text_here", "_law_k", "_law_level"]) fun _ _ _ _ _ _ us hl => match us, hl with | [_, _, _], _ => rfl
  have F__law_is_name := fun_mk (st := s__law_is_name) l__law_is_name e__law_is_name k__law_is_name
  have B__law_is_name := F__law_is_name.binds (ps := ["_law_text_here"]) fun _ _ _ _ _ _ us hl => match us, hl with | [_], _ => rfl
  have F__law_scan_word := fun_mk (st := s__law_scan_word) l__law_scan_word e__law_scan_word k__law_scan_word
  have B__law_scan_word := F__law_scan_word.binds (ps := ["_law_text_here", "_law_k", "_law_level"]) fun _ _ _ _ _ _ us hl => match us, hl with | [_, _, _], _ => rfl
  have F__law_figures := fun_mk (st := s__law_figures) l__law_figures e__law_figures k__law_figures
  have B__law_figures := F__law_figures.binds (ps := ["_law_text_here", "_law_k"]) fun _ _ _ _ _ _ us hl => match us, hl with | [_, _], _ => rfl
  have F__law_scan_fraction := fun_mk (st := s__law_scan_fraction) l__law_scan_fraction e__law_scan_fraction k__law_scan_fraction
  have B__law_scan_fraction := F__law_scan_fraction.binds (ps := ["_law_text_here", "_law_k"]) fun _ _ _ _ _ _ us hl => match us, hl with | [_, _], _ => rfl
  have F__law_scan := fun_mk (st := s__law_scan) l__law_scan e__law_scan k__law_scan
  have B__law_scan := F__law_scan.binds (ps := ["_law_text_here", "_law_k", "_law_level"]) fun _ _ _ _ _ _ us hl => match us, hl with | [_, _, _], _ => rfl
  have F__law_due := fun_mk (st := s__law_due) l__law_due e__law_due k__law_due
  have B__law_due := F__law_due.binds (ps := ["_law_text_here"]) fun _ _ _ _ _ _ us hl => match us, hl with | [_], _ => rfl
  have F_law := fun_mk (st := s_law) l_law e_law k_law
  have B_law := F_law.binds (ps := ["_law_script"]) fun _ _ _ _ _ _ us hl => match us, hl with | [_], _ => rfl
  have F__law_outcome := fun_mk (st := s__law_outcome) l__law_outcome e__law_outcome k__law_outcome
  have B__law_outcome := F__law_outcome.binds (ps := ["_law_ask"]) fun _ _ _ _ _ _ us hl => match us, hl with | [_], _ => rfl
  have F__law_field := fun_mk (st := s__law_field) l__law_field e__law_field k__law_field
  have B__law_field := F__law_field.binds (ps := ["_law_e"]) fun _ _ _ _ _ _ us hl => match us, hl with | [_], _ => rfl
  let dF : DefAt M "_law_field" s__law_field ["_law_e"] := ⟨f__law_field, _, PySem.W.mg_of X G a__law_field, k__law_field, B__law_field, F__law_field⟩
  have cau : ∀ c, okE c = true → exmAny M.K (.ref (M.ca c)) [.ref e1, .ref e2, .ref e3] = some true := by
    intro c hc
    by_cases h_InvalidText : c = "InvalidText"
    · subst h_InvalidText
      rw [hc_InvalidText]
      exact exm3 (exmOne_of xb1 xi1 xt1 em1_InvalidText) (exmOne_of xb2 xi2 xt2 em2_InvalidText) (exmOne_of xb3 xi3 xt3 em3_InvalidText) rfl
    exact absurd hc (by unfold okE; simp [h_InvalidText])
  let A : Ax M c Pt := ⟨⟨f__law_begin, _, PySem.W.mg_of X G a__law_begin, k__law_begin, B__law_begin, F__law_begin⟩,
    ⟨f__law_draw, _, PySem.W.mg_of X G a__law_draw, k__law_draw, B__law_draw, F__law_draw⟩,
    ⟨f__law_pick, _, PySem.W.mg_of X G a__law_pick, k__law_pick, B__law_pick, F__law_pick⟩,
    ⟨f__law_fraction_text, _, PySem.W.mg_of X G a__law_fraction_text, k__law_fraction_text, B__law_fraction_text, F__law_fraction_text⟩,
    ⟨f__law_text, _, PySem.W.mg_of X G a__law_text, k__law_text, B__law_text, F__law_text⟩,
    ⟨f__law_lowest, _, PySem.W.mg_of X G a__law_lowest, k__law_lowest, B__law_lowest, F__law_lowest⟩,
    ⟨f__law_text_fraction, _, PySem.W.mg_of X G a__law_text_fraction, k__law_text_fraction, B__law_text_fraction, F__law_text_fraction⟩,
    ⟨f__law_expression, _, PySem.W.mg_of X G a__law_expression, k__law_expression, B__law_expression, F__law_expression⟩,
    ⟨f__law_letters, _, PySem.W.mg_of X G a__law_letters, k__law_letters, B__law_letters, F__law_letters⟩,
    ⟨f__law_names, _, PySem.W.mg_of X G a__law_names, k__law_names, B__law_names, F__law_names⟩,
    ⟨f__law_altered, _, PySem.W.mg_of X G a__law_altered, k__law_altered, B__law_altered, F__law_altered⟩,
    ⟨f_char_at, _, PySem.W.mg_of X G a_char_at, k_char_at, B_char_at, F_char_at⟩,
    ⟨f_scan_exact, _, PySem.W.mg_of X G a_scan_exact, k_scan_exact, B_scan_exact, F_scan_exact⟩,
    ⟨f_parse_pair, _, PySem.W.mg_of X G a_parse_pair, k_parse_pair, B_parse_pair, F_parse_pair⟩,
    ⟨f_is_name, _, PySem.W.mg_of X G a_is_name, k_is_name, B_is_name, F_is_name⟩,
    ⟨f_parse_word, _, PySem.W.mg_of X G a_parse_word, k_parse_word, B_parse_word, F_parse_word⟩,
    ⟨f_is_decimal, _, PySem.W.mg_of X G a_is_decimal, k_is_decimal, B_is_decimal, F_is_decimal⟩,
    ⟨f_scan_number, _, PySem.W.mg_of X G a_scan_number, k_scan_number, B_scan_number, F_scan_number⟩,
    ⟨f_common_divisor, _, PySem.W.mg_of X G a_common_divisor, k_common_divisor, B_common_divisor, F_common_divisor⟩,
    ⟨f_scan_fraction, _, PySem.W.mg_of X G a_scan_fraction, k_scan_fraction, B_scan_fraction, F_scan_fraction⟩,
    ⟨f_parse_part, _, PySem.W.mg_of X G a_parse_part, k_parse_part, B_parse_part, F_parse_part⟩,
    ⟨f_parse_expression, _, PySem.W.mg_of X G a_parse_expression, k_parse_expression, B_parse_expression, F_parse_expression⟩,
    ⟨f__law_same, _, PySem.W.mg_of X G a__law_same, k__law_same, B__law_same, F__law_same⟩,
    ⟨f__law_at, _, PySem.W.mg_of X G a__law_at, k__law_at, B__law_at, F__law_at⟩,
    ⟨f__law_fits, _, PySem.W.mg_of X G a__law_fits, k__law_fits, B__law_fits, F__law_fits⟩,
    ⟨f__law_scan_pair, _, PySem.W.mg_of X G a__law_scan_pair, k__law_scan_pair, B__law_scan_pair, F__law_scan_pair⟩,
    ⟨f__law_is_name, _, PySem.W.mg_of X G a__law_is_name, k__law_is_name, B__law_is_name, F__law_is_name⟩,
    ⟨f__law_scan_word, _, PySem.W.mg_of X G a__law_scan_word, k__law_scan_word, B__law_scan_word, F__law_scan_word⟩,
    ⟨f__law_figures, _, PySem.W.mg_of X G a__law_figures, k__law_figures, B__law_figures, F__law_figures⟩,
    ⟨f__law_scan_fraction, _, PySem.W.mg_of X G a__law_scan_fraction, k__law_scan_fraction, B__law_scan_fraction, F__law_scan_fraction⟩,
    ⟨f__law_scan, _, PySem.W.mg_of X G a__law_scan, k__law_scan, B__law_scan, F__law_scan⟩,
    ⟨f__law_due, _, PySem.W.mg_of X G a__law_due, k__law_due, B__law_due, F__law_due⟩,
    ⟨⟨fa, _, PySem.W.mg_of X G a_law, k_law, B_law, F_law⟩, ⟨_, _, _, _, _, _, _, _, rfl, l_law, e_law⟩, List.mem_cons_self, fun p hp _ => by rw [List.mem_singleton.mp hp]⟩,
    ⟨⟨f__law_outcome, _, PySem.W.mg_of X G a__law_outcome, k__law_outcome, B__law_outcome, F__law_outcome⟩, dF, e1, e2, e3, PySem.W.mg_of X G ae1, PySem.W.mg_of X G ae2, PySem.W.mg_of X G ae3, cau, okq__law_field dF⟩⟩
  refine lawAt (c := c) (Pt := Pt) (fd := PySem.W.fnOf "law" "law" (defArgs s_law) (defBody s_law) (defScope s_law) .none kV_law dc_law pm_law an_law (.ref c) ct_law) (own c Pt _ _ _ _ _ _ l_law rfl rfl lc pc) nP ⟨_, cvs, cfl, cft, cgn, cgt, cbf, ctn, ctt, X _ _ lc, rfl, rfl, pc, pd, p18, p7, p9, p10, pne⟩ (fun s v => .of_eq rfl) fun base _ _ tb => ?_
  exact fn_law (M := M) hm (all_law (P := l.prog) (w := w) (base := base) T A tb)
end
end Kx
open PySem PySem.W PyProof.Rows
theorem PySem.W.Fast.tw8526806273751687590 : True := True.intro
theorem PySem.W.Fast.tw871806809719087069 : True := True.intro
theorem PySem.W.Fast.tw122893126780720522 : True := True.intro
theorem PySem.W.Fast.tw10372949376135179576 : True := True.intro
theorem PySem.W.Fast.tw6855676792123195324 : True := True.intro
theorem PySem.W.Fast.tw4043081773246354889 : True := True.intro
theorem PySem.W.Fast.tw4561582953337548141 : True := True.intro
theorem PySem.W.Fast.tw15734231452623576725 : True := True.intro
theorem PySem.W.Fast.tw12282334557089722475 : True := True.intro
theorem PySem.W.Fast.tw8813055446238198850 : True := True.intro
theorem PySem.W.Fast.tw5009433755150430905 : True := True.intro
set_option maxRecDepth 100000 in
set_option maxHeartbeats 0 in
theorem PySem.Challenge.cw_earlywrite_k16_invalid_texts_of_expressi_holds : PySem.Challenge.rw_earlywrite_k16_invalid_texts_of_expressi.Holds := by
  w_on; o_law; k_head; (case hw => w_witness2)
  k_fill
  refine DL.walkL (l := PySem.Challenge.rw_earlywrite_k16_invalid_texts_of_expressi) (k := 36) ⟨rfl, by decide, by decide⟩ rfl rfl (by decide +kernel) (fun w h Y => PySem.W.km_in_of Y) ?F
  case F =>
    intro w mg fa h KX G hmg own
    refine' Kx.all_mk KX G hmg own ?a__law_begin ?l__law_begin ?e__law_begin ?k__law_begin ?a__law_draw ?l__law_draw ?e__law_draw ?k__law_draw ?a__law_pick ?l__law_pick ?e__law_pick ?k__law_pick ?a__law_fraction_text ?l__law_fraction_text ?e__law_fraction_text ?k__law_fraction_text ?a__law_text ?l__law_text ?e__law_text ?k__law_text ?a__law_lowest ?l__law_lowest ?e__law_lowest ?k__law_lowest ?a__law_text_fraction ?l__law_text_fraction ?e__law_text_fraction ?k__law_text_fraction ?a__law_expression ?l__law_expression ?e__law_expression ?k__law_expression ?a__law_letters ?l__law_letters ?e__law_letters ?k__law_letters ?a__law_names ?l__law_names ?e__law_names ?k__law_names ?a__law_altered ?l__law_altered ?e__law_altered ?k__law_altered ?a_char_at ?l_char_at ?e_char_at ?k_char_at ?a_scan_exact ?l_scan_exact ?e_scan_exact ?k_scan_exact ?a_parse_pair ?l_parse_pair ?e_parse_pair ?k_parse_pair ?a_is_name ?l_is_name ?e_is_name ?k_is_name ?a_parse_word ?l_parse_word ?e_parse_word ?k_parse_word ?a_is_decimal ?l_is_decimal ?e_is_decimal ?k_is_decimal ?a_scan_number ?l_scan_number ?e_scan_number ?k_scan_number ?a_common_divisor ?l_common_divisor ?e_common_divisor ?k_common_divisor ?a_scan_fraction ?l_scan_fraction ?e_scan_fraction ?k_scan_fraction ?a_parse_part ?l_parse_part ?e_parse_part ?k_parse_part ?a_parse_expression ?l_parse_expression ?e_parse_expression ?k_parse_expression ?a__law_same ?l__law_same ?e__law_same ?k__law_same ?a__law_at ?l__law_at ?e__law_at ?k__law_at ?a__law_fits ?l__law_fits ?e__law_fits ?k__law_fits ?a__law_scan_pair ?l__law_scan_pair ?e__law_scan_pair ?k__law_scan_pair ?a__law_is_name ?l__law_is_name ?e__law_is_name ?k__law_is_name ?a__law_scan_word ?l__law_scan_word ?e__law_scan_word ?k__law_scan_word ?a__law_figures ?l__law_figures ?e__law_figures ?k__law_figures ?a__law_scan_fraction ?l__law_scan_fraction ?e__law_scan_fraction ?k__law_scan_fraction ?a__law_scan ?l__law_scan ?e__law_scan ?k__law_scan ?a__law_due ?l__law_due ?e__law_due ?k__law_due ?a_law ?l_law ?e_law ?k_law ?a__law_outcome ?l__law_outcome ?e__law_outcome ?k__law_outcome ?a__law_field ?l__law_field ?e__law_field ?k__law_field ?z_len ?z_list ?z_str ?z_abs ?z_range ?z_all ?z_int ?z_isinstance ?z_tuple ?z_zip ?z_bool ?q_MIN_NAME ?q_MAX_NAME ?q_LETTERS ?q_VARIABLE ?q_DECIMALS ?q_MAX_FIGURES ?q_MAX_DEPTH ?q_WORDS ?l_WORDS ?y_WORDS ?s_WORDS ?w_WORDS ?u_WORDS ?ae1 ?ae2 ?ae3 ?xb1 ?xi1 ?xt1 ?xb2 ?xi2 ?xt2 ?xb3 ?xi3 ?xt3 ?lc ?pc ?pd ?p18 ?p7 ?p9 ?p10 ?pne ?nP ?a_InvalidText ?oe_InvalidText ?vm_InvalidText ?sa_InvalidText ?eC_InvalidText ?tC_InvalidText ?kC_InvalidText ?ii_InvalidText ?ti_InvalidText ?tg_InvalidText ?fl_InvalidText ?ga_InvalidText ?gg_InvalidText ?hd_InvalidText ?li_InvalidText ?ci_InvalidText ?ki_InvalidText ?em1_InvalidText ?em2_InvalidText ?em3_InvalidText Kx.law_good
    (case a__law_begin => k_is)
    (case l__law_begin => k_is)
    (case e__law_begin => k_is)
    (case k__law_begin => k_is)
    (case a__law_draw => k_is)
    (case l__law_draw => k_is)
    (case e__law_draw => k_is)
    (case k__law_draw => k_is)
    (case a__law_pick => k_is)
    (case l__law_pick => k_is)
    (case e__law_pick => k_is)
    (case k__law_pick => k_is)
    (case a__law_fraction_text => k_is)
    (case l__law_fraction_text => k_is)
    (case e__law_fraction_text => k_is)
    (case k__law_fraction_text => k_is)
    (case a__law_text => k_is)
    (case l__law_text => k_is)
    (case e__law_text => k_is)
    (case k__law_text => k_is)
    (case a__law_lowest => k_is)
    (case l__law_lowest => k_is)
    (case e__law_lowest => k_is)
    (case k__law_lowest => k_is)
    (case a__law_text_fraction => k_is)
    (case l__law_text_fraction => k_is)
    (case e__law_text_fraction => k_is)
    (case k__law_text_fraction => k_is)
    (case a__law_expression => k_is)
    (case l__law_expression => k_is)
    (case e__law_expression => k_is)
    (case k__law_expression => k_is)
    (case a__law_letters => k_is)
    (case l__law_letters => k_is)
    (case e__law_letters => k_is)
    (case k__law_letters => k_is)
    (case a__law_names => k_is)
    (case l__law_names => k_is)
    (case e__law_names => k_is)
    (case k__law_names => k_is)
    (case a__law_altered => k_is)
    (case l__law_altered => k_is)
    (case e__law_altered => k_is)
    (case k__law_altered => k_is)
    (case a_char_at => k_is)
    (case l_char_at => k_is)
    (case e_char_at => k_is)
    (case k_char_at => k_is)
    (case a_scan_exact => k_is)
    (case l_scan_exact => k_is)
    (case e_scan_exact => k_is)
    (case k_scan_exact => k_is)
    (case a_parse_pair => k_is)
    (case l_parse_pair => k_is)
    (case e_parse_pair => k_is)
    (case k_parse_pair => k_is)
    (case a_is_name => k_is)
    (case l_is_name => k_is)
    (case e_is_name => k_is)
    (case k_is_name => k_is)
    (case a_parse_word => k_is)
    (case l_parse_word => k_is)
    (case e_parse_word => k_is)
    (case k_parse_word => k_is)
    (case a_is_decimal => k_is)
    (case l_is_decimal => k_is)
    (case e_is_decimal => k_is)
    (case k_is_decimal => k_is)
    (case a_scan_number => k_is)
    (case l_scan_number => k_is)
    (case e_scan_number => k_is)
    (case k_scan_number => k_is)
    (case a_common_divisor => k_is)
    (case l_common_divisor => k_is)
    (case e_common_divisor => k_is)
    (case k_common_divisor => k_is)
    (case a_scan_fraction => k_is)
    (case l_scan_fraction => k_is)
    (case e_scan_fraction => k_is)
    (case k_scan_fraction => k_is)
    (case a_parse_part => k_is)
    (case l_parse_part => k_is)
    (case e_parse_part => k_is)
    (case k_parse_part => k_is)
    (case a_parse_expression => k_is)
    (case l_parse_expression => k_is)
    (case e_parse_expression => k_is)
    (case k_parse_expression => k_is)
    (case a__law_same => k_is)
    (case l__law_same => k_is)
    (case e__law_same => k_is)
    (case k__law_same => k_is)
    (case a__law_at => k_is)
    (case l__law_at => k_is)
    (case e__law_at => k_is)
    (case k__law_at => k_is)
    (case a__law_fits => k_is)
    (case l__law_fits => k_is)
    (case e__law_fits => k_is)
    (case k__law_fits => k_is)
    (case a__law_scan_pair => k_is)
    (case l__law_scan_pair => k_is)
    (case e__law_scan_pair => k_is)
    (case k__law_scan_pair => k_is)
    (case a__law_is_name => k_is)
    (case l__law_is_name => k_is)
    (case e__law_is_name => k_is)
    (case k__law_is_name => k_is)
    (case a__law_scan_word => k_is)
    (case l__law_scan_word => k_is)
    (case e__law_scan_word => k_is)
    (case k__law_scan_word => k_is)
    (case a__law_figures => k_is)
    (case l__law_figures => k_is)
    (case e__law_figures => k_is)
    (case k__law_figures => k_is)
    (case a__law_scan_fraction => k_is)
    (case l__law_scan_fraction => k_is)
    (case e__law_scan_fraction => k_is)
    (case k__law_scan_fraction => k_is)
    (case a__law_scan => k_is)
    (case l__law_scan => k_is)
    (case e__law_scan => k_is)
    (case k__law_scan => k_is)
    (case a__law_due => k_is)
    (case l__law_due => k_is)
    (case e__law_due => k_is)
    (case k__law_due => k_is)
    (case a_law => k_is)
    (case l_law => k_is)
    (case e_law => k_is)
    (case k_law => k_is)
    (case a__law_outcome => k_is)
    (case l__law_outcome => k_is)
    (case e__law_outcome => k_is)
    (case k__law_outcome => k_is)
    (case a__law_field => k_is)
    (case l__law_field => k_is)
    (case e__law_field => k_is)
    (case k__law_field => k_is)
    (case z_len => k_is)
    (case z_list => k_is)
    (case z_str => k_is)
    (case z_abs => k_is)
    (case z_range => k_is)
    (case z_all => k_is)
    (case z_int => k_is)
    (case z_isinstance => k_is)
    (case z_tuple => k_is)
    (case z_zip => k_is)
    (case z_bool => k_is)
    (case q_MIN_NAME => k_is)
    (case q_MAX_NAME => k_is)
    (case q_LETTERS => k_is)
    (case q_VARIABLE => k_is)
    (case q_DECIMALS => k_is)
    (case q_MAX_FIGURES => k_is)
    (case q_MAX_DEPTH => k_is)
    (case q_WORDS => k_is)
    (case l_WORDS => k_is)
    (case y_WORDS => k_keys)
    (case s_WORDS => rfl)
    (case w_WORDS => rfl)
    (case u_WORDS => rfl)
    (case ae1 => k_is)
    (case ae2 => k_is)
    (case ae3 => k_is)
    (case xb1 => k_is)
    (case xi1 => k_is)
    (case xt1 => k_is)
    (case xb2 => k_is)
    (case xi2 => k_is)
    (case xt2 => k_is)
    (case xb3 => k_is)
    (case xi3 => k_is)
    (case xt3 => k_is)
    (case lc => k_is)
    (case pc => rfl)
    (case pd => rfl)
    (case p18 => rfl)
    (case p7 => rfl)
    (case p9 => rfl)
    (case p10 => rfl)
    (case pne => decide)
    (case nP => first | rfl | k_is | decide +kernel)
    (case a_InvalidText => k_is)
    (case oe_InvalidText => k_is)
    (case vm_InvalidText => decide +kernel)
    (case sa_InvalidText => k_is)
    (case eC_InvalidText => k_is)
    (case tC_InvalidText => k_is)
    (case kC_InvalidText => k_is)
    (case ii_InvalidText => k_is)
    (case ti_InvalidText => k_is)
    (case tg_InvalidText => k_is)
    (case fl_InvalidText => k_is)
    (case ga_InvalidText => k_is)
    (case gg_InvalidText => k_is)
    (case hd_InvalidText => k_is)
    (case li_InvalidText => k_is)
    (case ci_InvalidText => k_is)
    (case ki_InvalidText => k_is)
    (case em1_InvalidText => k_is)
    (case em2_InvalidText => k_is)
    (case em3_InvalidText => k_is)
#print axioms PySem.Challenge.cw_earlywrite_k16_invalid_texts_of_expressi_holds

