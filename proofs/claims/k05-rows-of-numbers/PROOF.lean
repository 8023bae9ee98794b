import PyProof.Rows.All
import Wide.All
import OpenK.AllK
import Wide.FinOn
import HandS.ForMost
import HandS.ExcInit
import HandS.WordsExc
import HandS.Lambda
import HandS.Wide
import HandS.ExcField
import HandS.TupAny
import HandS.Deep
import HandS.IsInst
import HandS.Flow
import HandS.CallSlots
import HandS.FStr
import HandS.Zip
import HandS.Defaults
import HandS.More
import HandS.Text
import HandS.Ends
import KE.KTryMore
import HandS.HotCalls
import HandS.EndOwn
import KE.KNestM
import KE.KUnpackStar
import HandS.SortInts
import HandS.TupMul
import HandS.Conv
import HandS.OwnEq
import OpenK.KOps
import HandS.Codes
import KE.KDictZip
import HandS.Zip0
import HandS.ListItems
import PySem.Challenge.RW_earlywrite_k05_rows_of_numbers
/- part -/
set_option Elab.async false
set_option linter.all false
set_option maxRecDepth 100000
set_option maxHeartbeats 4000000
/-! The data layer: values as data, the heap out of sight. -/
namespace DL
open PySem PySem.Spec PyProof.Rows L2

/-! ### data -/
inductive D where
  | non | bl (b : Bool) | int (i : Int) | str (s : Str)
  | tup (xs : List D) | lst (xs : List D) | scr (ns : List Int)
  /-- a list that slot n of some frame has for its own and lends -/
  | tl (n : Nat) (xs : List D)
  | obj (c : Str) (fs : List (Str × D)) | fn (x : Str) | exc (c : Str) (fs : List (Str × D))
/-- what the text's names stand for -/
structure Mx where
  K : PySem.W.Frag
  mg : Str → Option Value
  ca : Str → Addr
  T : List (Addr × Str)
/-- the fields ns of the class at C's exceptions can be read -/
def XcOk (K : PySem.W.Frag) (C : Addr) (ns : List Str) : Prop := XfC K C ∧ ∀ f ∈ ns, PySem.W.findIn K (.ref C) f = some none
def ObOk (K : PySem.W.Frag) (C : Addr) (ns : List Str) : Prop := Cls K C ∧ ∀ f ∈ ns, NoAttr K C f
/-- an exception that stands at a, known as a whole -/
def xo (a : Addr) (oe : Obj) : HO := .ext fun h => h.get? a = some oe
/-- the mark of a list that is lent -/
def o0 : Obj := { cls := .none, data := .fields #[] }
def bw (n : Nat) (vs : List V) : HO := .frz o0 (.frz o0 (.tup (.int n :: vs)))
mutual
inductive Rep (M : Mx) (F : Hp) : V → D → Prop
  | non : Rep M F .non .non
  | bl (b : Bool) : Rep M F (.bl b) (.bl b)
  | int (i : Int) : Rep M F (.int i) (.int i)
  | str (x : Str) : Rep M F (.str x) (.str x)
  | tup {a : Addr} {vs : List V} {ds : List D} : SqT M.K F a vs → Reps M F vs ds → Rep M F (.ref a) (.tup ds)
  | lst {a : Addr} {vs : List V} {ds : List D} : F a = some (.lst vs) → Reps M F vs ds → Rep M F (.ref a) (.lst ds)
  | scr {a : Addr} {ns : List Int} : SqL M.K F a (ns.map V.int) → Rep M F (.ref a) (.scr ns)
  | obj {a dx : Addr} {c : Str} {vs : List (Str × V)} {fs : List (Str × D)} : F a = some (.ins (M.ca c) dx vs) → RepF M F vs fs → ObOk M.K (M.ca c) (fs.map (·.1)) → Rep M F (.ref a) (.obj c fs)
  | fn {a : Addr} {x : Str} : M.mg x = some (.ref a) → Rep M F (.ref a) (.fn x)
  | tl {a : Addr} {n : Nat} {vs : List V} {ds : List D} : F a = some (bw n vs) → Reps M F vs ds → Rep M F (.ref a) (.tl n ds)
  | exc {a dx : Addr} {oe : Obj} {c : Str} {vs : List (Str × V)} {fs : List (Str × D)} : F a = some (xo a oe) → Zc (.ref (M.ca c)) (some dx) oe → (∃ ws, oe.data = .fields ws) → F dx = some (.xd vs) → RepF M F vs fs → XcOk M.K (M.ca c) (fs.map (·.1)) → Rep M F (.ref a) (.exc c fs)
inductive Reps (M : Mx) (F : Hp) : List V → List D → Prop
  | nil : Reps M F [] []
  | cons {v : V} {vs : List V} {d : D} {ds : List D} : Rep M F v d → Reps M F vs ds → Reps M F (v :: vs) (d :: ds)
inductive RepF (M : Mx) (F : Hp) : List (Str × V) → List (Str × D) → Prop
  | nil : RepF M F [] []
  | cons {f : Str} {v : V} {vs : List (Str × V)} {d : D} {fs : List (Str × D)} : Rep M F v d → RepF M F vs fs → RepF M F ((f, v) :: vs) ((f, d) :: fs)
end
theorem same_rd {H H' : Hp} {a : Addr} {u : HO} (e : Same H H') (h : Rd H a u) : Rd H' a u := by
  rcases h with h | ⟨o, h⟩
  · exact .inl (e _ _ h)
  · exact .inr ⟨o, e _ _ h⟩
theorem same_sqT {K : PySem.W.Frag} {H H' : Hp} {a : Addr} {xs : List V} (e : Same H H') (h : SqT K H a xs) : SqT K H' a xs := by
  rcases h with h | h
  · exact .inl (same_rd e h)
  · exact .inr h
theorem same_sqL {K : PySem.W.Frag} {H H' : Hp} {a : Addr} {xs : List V} (e : Same H H') (h : SqL K H a xs) : SqL K H' a xs := by
  rcases h with h | h
  · exact .inl (same_rd e h)
  · exact .inr h
section
variable {M : Mx} {F F' : Hp}
mutual
theorem Rep.mono (e : Same F F') : ∀ (d : D) (v : V), Rep M F v d → Rep M F' v d
  | .non, _, h => by
    cases h
    exact .non
  | .bl b, _, h => by
    cases h
    exact .bl b
  | .int b, _, h => by
    cases h
    exact .int b
  | .str b, _, h => by
    cases h
    exact .str b
  | .tup ds, _, h => by
    cases h with
    | tup h1 h2 => exact .tup (same_sqT e h1) (Reps.mono e ds _ h2)
  | .lst ds, _, h => by
    cases h with
    | lst h1 h2 => exact .lst (e _ _ h1) (Reps.mono e ds _ h2)
  | .scr ns, _, h => by
    cases h with
    | scr h1 => exact .scr (same_sqL e h1)
  | .obj c fs, _, h => by
    cases h with
    | obj h1 h2 h3 => exact .obj (e _ _ h1) (RepF.mono e fs _ h2) h3
  | .fn x, _, h => by
    cases h with
    | fn h1 => exact .fn h1
  | .exc c fs, _, h => by
    cases h with
    | exc h1 h2 h3 h4 h5 h6 => exact .exc (e _ _ h1) h2 h3 (e _ _ h4) (RepF.mono e fs _ h5) h6
  | .tl n ds, _, h => by
    cases h with
    | tl h1 h2 => exact .tl (e _ _ h1) (Reps.mono e ds _ h2)
theorem Reps.mono (e : Same F F') : ∀ (ds : List D) (vs : List V), Reps M F vs ds → Reps M F' vs ds
  | [], _, h => by
    cases h
    exact .nil
  | d :: ds, _, h => by
    cases h with
    | cons h1 h2 => exact .cons (Rep.mono e d _ h1) (Reps.mono e ds _ h2)
theorem RepF.mono (e : Same F F') : ∀ (ds : List (Str × D)) (vs : List (Str × V)), RepF M F vs ds → RepF M F' vs ds
  | [], _, h => by
    cases h
    exact .nil
  | (f, d) :: ds, _, h => by
    cases h with
    | cons h1 h2 => exact .cons (Rep.mono e d _ h1) (RepF.mono e ds _ h2)
end
theorem Rep.up (e : Same F F') {d : D} {v : V} (h : Rep M F v d) : Rep M F' v d := Rep.mono e d v h
theorem Reps.up (e : Same F F') {d : List D} {v : List V} (h : Reps M F v d) : Reps M F' v d := Reps.mono e d v h
theorem RepF.up (e : Same F F') {d : List (Str × D)} {v : List (Str × V)} (h : RepF M F v d) : RepF M F' v d := RepF.mono e d v h
theorem Reps.length : ∀ {vs : List V} {ds : List D}, Reps M F vs ds → vs.length = ds.length
  | [], [], _ => rfl
  | _ :: _, _ :: _, .cons _ h => congrArg (· + 1) (Reps.length h)
theorem Reps.get : ∀ {vs : List V} {ds : List D} {i : Nat} {d : D}, Reps M F vs ds → ds[i]? = some d → ∃ v, vs[i]? = some v ∧ Rep M F v d
  | _, _, _, _, .nil, e => by simp at e
  | _, _, 0, _, .cons r _, e => ⟨_, rfl, by
    simp at e
    subst e
    exact r⟩
  | _, _, i + 1, d, .cons _ t, e => by
    obtain ⟨v, h1, h2⟩ := Reps.get (i := i) t (by simpa using e)
    exact ⟨v, by simpa using h1, h2⟩
theorem Reps.getV : ∀ {vs : List V} {ds : List D} {i : Nat} {v : V}, Reps M F vs ds → vs[i]? = some v → ∃ d, ds[i]? = some d ∧ Rep M F v d
  | _, _, _, _, .nil, e => by simp at e
  | _, _, 0, _, .cons r _, e => ⟨_, rfl, by
    simp at e
    subst e
    exact r⟩
  | _, _, i + 1, d, .cons _ t, e => by
    obtain ⟨v, h1, h2⟩ := Reps.getV (i := i) t (by simpa using e)
    exact ⟨v, by simpa using h1, h2⟩
theorem Reps.append : ∀ {vs ws : List V} {ds es : List D}, Reps M F vs ds → Reps M F ws es → Reps M F (vs ++ ws) (ds ++ es)
  | _, _, _, _, .nil, s => s
  | _, _, _, _, .cons r t, s => .cons r (Reps.append t s)
theorem Reps.take : ∀ {vs : List V} {ds : List D} (n : Nat), Reps M F vs ds → Reps M F (vs.take n) (ds.take n)
  | _, _, 0, _ => .nil
  | _, _, _ + 1, .nil => .nil
  | _, _, n + 1, .cons r t => .cons r (Reps.take n t)
theorem Reps.drop : ∀ {vs : List V} {ds : List D} (n : Nat), Reps M F vs ds → Reps M F (vs.drop n) (ds.drop n)
  | _, _, 0, h => h
  | _, _, _ + 1, .nil => .nil
  | _, _, n + 1, .cons _ t => Reps.drop n t
theorem Reps.set {v : V} {d : D} (r : Rep M F v d) : ∀ {vs : List V} {ds : List D} (i : Nat), Reps M F vs ds → Reps M F (vs.set i v) (ds.set i d)
  | _, _, _, .nil => .nil
  | _, _, 0, .cons _ t => .cons r t
  | _, _, i + 1, .cons q t => .cons q (Reps.set r i t)
theorem Reps.dropLast {vs : List V} {ds : List D} (h : Reps M F vs ds) : Reps M F vs.dropLast ds.dropLast := by
  rw [List.dropLast_eq_take, List.dropLast_eq_take, h.length]
  exact h.take _
theorem Reps.eraseIdx : ∀ {vs : List V} {ds : List D} (i : Nat), Reps M F vs ds → Reps M F (vs.eraseIdx i) (ds.eraseIdx i)
  | _, _, _, .nil => .nil
  | _, _, 0, .cons _ t => t
  | _, _, i + 1, .cons q t => .cons q (Reps.eraseIdx i t)
theorem Reps.reverse {vs : List V} {ds : List D} (h : Reps M F vs ds) : Reps M F vs.reverse ds.reverse := by
  induction vs generalizing ds with
  | nil =>
    cases h
    exact .nil
  | cons v vs ih =>
    cases h with
    | cons r t =>
      rw [List.reverse_cons, List.reverse_cons]
      exact (ih t).append (.cons r .nil)
theorem Reps.ints : ∀ {vs : List V} {ns : List Int}, Reps M F vs (ns.map D.int) → vs = ns.map V.int
  | [], [], _ => rfl
  | v :: vs, n :: ns, .cons r t => by
    cases r
    rw [List.map_cons, Reps.ints t]
theorem Reps.ofInts : ∀ ns : List Int, Reps M F (ns.map V.int) (ns.map D.int)
  | [] => .nil
  | n :: ns => .cons (.int n) (Reps.ofInts ns)
end

/-! ### a frame's names, the heap -/
/-- what a slot has for its own: a list; an object -/
inductive OC where
  | ls (ds : List D) | ob (c : Str) (fs : List (Str × D))
/-- .. as data -/
def OC.D : OC → D
  | .ls ds => .lst ds
  | .ob c fs => .obj c fs
inductive OcRep (M : Mx) (F : Hp) : HO → OC → Prop
  | ls {vs : List V} {ds : List D} : Reps M F vs ds → OcRep M F (.lst vs) (.ls ds)
  | ob {dx : Addr} {c : Str} {vs : List (Str × V)} {fs : List (Str × D)} : RepF M F vs fs → ObOk M.K (M.ca c) (fs.map (·.1)) → OcRep M F (.ins (M.ca c) dx vs) (.ob c fs)
theorem OcRep.up {M : Mx} {F F' : Hp} (e : Same F F') {o : HO} {oc : OC} (h : OcRep M F o oc) : OcRep M F' o oc := by
  cases h with
  | ls r => exact .ls (r.up e)
  | ob r k => exact .ob (r.up e) k
theorem OcRep.nt {M : Mx} {F : Hp} {o : HO} {oc : OC} (h : OcRep M F o oc) : ∀ ps, o ≠ .tbl ps := fun ps z => by
  subst z
  cases h
theorem OcRep.nb {M : Mx} {F : Hp} {o : HO} {oc : OC} (h : OcRep M F o oc) : ∀ n vs, o ≠ bw n vs := fun n vs z => by
  subst z
  cases h
theorem OcRep.lst {M : Mx} {F : Hp} {o : HO} {ds : List D} (h : OcRep M F o (.ls ds)) : ∃ vs, o = .lst vs ∧ Reps M F vs ds := by
  cases h with
  | ls r => exact ⟨_, rfl, r⟩
inductive SV where
  | no | im (d : D) | ow (io : Bool) (oc : OC)
abbrev SE := List SV
def isOw (ρ : SE) (i : Nat) : Prop := ∃ io oc, ρ[i]? = some (SV.ow io oc)
def Own (σ : L2.St) (ρ : SE) (b : Addr) : Prop := ∃ i : Nat, isOw ρ i ∧ σ[i]? = some (some (V.ref b))
def NoTb (F : Hp) : Prop := ∀ b ps, F b ≠ some (.tbl ps)
theorem NoTb.upd {F : Hp} {a : Addr} {o : HO} (h : NoTb F) (n : ∀ ps, o ≠ .tbl ps) : NoTb (upd F a o) := fun b ps e => by
  by_cases hb : b = a
  · subst hb
    rw [upd_same] at e
    exact n ps (Option.some.inj e)
  · rw [upd_ne hb] at e
    exact h b ps e
/-- what is frozen stands in the heap; what is lent stands there as a list -/
structure SubF (F H : Hp) : Prop where
  go : ∀ b o, F b = some o → (n : ∀ n vs, o ≠ bw n vs := by intro _ _ z; cases z) → H b = some o
  bk : ∀ b n vs, F b = some (bw n vs) → H b = some (.lst vs)
theorem SubF.free {F H : Hp} (h : SubF F H) {a : Addr} (n : H a = none) : F a = none := by
  cases e : F a with
  | none => rfl
  | some o =>
    by_cases hb : ∃ n vs, o = bw n vs
    · obtain ⟨m, vs, rfl⟩ := hb
      rw [h.bk a m vs e] at n
      cases n
    · rw [h.go a o e fun m vs z => hb ⟨m, vs, z⟩] at n
      cases n
theorem SubF.trans {F H H' : Hp} (h : SubF F H) (e : Same H H') : SubF F H' := ⟨fun b o z n => e _ _ (h.go b o z n), fun b n vs z => e _ _ (h.bk b n vs z)⟩
theorem SubF.from {F F' H : Hp} (e : Same F F') (h : SubF F' H) : SubF F H := ⟨fun b o z n => h.go b o (e _ _ z) n, fun b n vs z => h.bk b n vs (e _ _ z)⟩
theorem SubF.sqT {K : PySem.W.Frag} {F H : Hp} (h : SubF F H) {a : Addr} {xs : List V} (z : SqT K F a xs) : SqT K H a xs := by
  rcases z with (z | ⟨o, z⟩) | z
  · exact .inl (.inl (h.go _ _ z))
  · exact .inl (.inr ⟨o, h.go _ _ z⟩)
  · exact .inr z
theorem SubF.sqL {K : PySem.W.Frag} {F H : Hp} (h : SubF F H) {a : Addr} {xs : List V} (z : SqL K F a xs) : SqL K H a xs := by
  rcases z with (z | ⟨o, z⟩) | z
  · exact .inl (.inl (h.go _ _ z))
  · exact .inl (.inr ⟨o, h.go _ _ z⟩)
  · exact .inr z
structure Sim (M : Mx) (F H : Hp) (σ : L2.St) (ρ : SE) : Prop where
  sub0 : SubF F H ∧ NoTb F
  tabs : LamX.Tabs M.T H
  len : σ.length = ρ.length
  im : ∀ (i : Nat) d, ρ[i]? = some (SV.im d) → ∃ v, σ[i]? = some (some v) ∧ Rep M F v d
  ow : ∀ (i : Nat) io oc, ρ[i]? = some (SV.ow io oc) → ∃ a o, σ[i]? = some (some (V.ref a)) ∧ H a = some o ∧ F a = none ∧ OcRep M F o oc
  inj : ∀ (i j : Nat) a, isOw ρ i → isOw ρ j → σ[i]? = some (some (V.ref a)) → σ[j]? = some (some (V.ref a)) → i = j
theorem Sim.sub {M : Mx} {F H : Hp} {σ : L2.St} {ρ : SE} (s : Sim M F H σ ρ) : SubF F H := s.sub0.1
theorem Sim.owl {M : Mx} {F H : Hp} {σ : L2.St} {ρ : SE} (s : Sim M F H σ ρ) (i : Nat) (io : Bool) (ds : List D) (h : ρ[i]? = some (SV.ow io (.ls ds))) : ∃ a vs, σ[i]? = some (some (V.ref a)) ∧ H a = some (.lst vs) ∧ F a = none ∧ Reps M F vs ds := by
  obtain ⟨a, o, e, h1, h2, r⟩ := s.ow i io _ h
  obtain ⟨vs, rfl, r2⟩ := r.lst
  exact ⟨a, vs, e, h1, h2, r2⟩
theorem Sim.ntb {M : Mx} {F H : Hp} {σ : L2.St} {ρ : SE} (s : Sim M F H σ ρ) : NoTb F := s.sub0.2
/-- nothing stands there, or a table -/
def Fre (H : Hp) (b : Addr) : Prop := ∀ o, H b = some o → ∃ ps, o = .tbl ps
theorem Fre.of {H : Hp} {b : Addr} (e : H b = none) : Fre H b := fun o z => by
  rw [e] at z
  cases z
theorem Fre.no {H : Hp} {b : Addr} {o : HO} (f : Fre H b) (e : H b = some o) (n : ∀ ps, o ≠ .tbl ps) : False := by
  obtain ⟨ps, z⟩ := f o e
  exact n ps z
theorem Fre.lst {H : Hp} {b : Addr} {vs : List V} (f : Fre H b) (e : H b = some (.lst vs)) : False := f.no e fun ps z => by cases z
theorem Fre.back {H : Hp} {b x : Addr} {u : HO} (z : Fre (upd H x u) b) (n : ∀ ps, u ≠ .tbl ps := by intro _ z; cases z) : Fre H b := fun o q => by
  by_cases hb : b = x
  · subst hb
    exact (z.no upd_same n).elim
  · exact z o (by rw [upd_ne hb]; exact q)
theorem Fre.ne {H : Hp} {b x : Addr} {o : HO} (f : Fre H x) (e : H b = some o) (n : ∀ ps, o ≠ .tbl ps) : b ≠ x := fun z => by
  subst z
  exact f.no e n
/-- a step from one state to a later one -/
structure Stp (F H : Hp) (σ : L2.St) (ρ : SE) (F' H' : Hp) (σ' : L2.St) (ρ' : SE) : Prop where
  same : Same F F'
  keep : ∀ b o, H b = some o → ¬ Own σ ρ b → (∀ ps, o ≠ .tbl ps) → H' b = some o
  new : ∀ b, Own σ' ρ' b → Own σ ρ b ∨ Fre H b
  newF : ∀ b o, F' b = some o → F b = some o ∨ Own σ ρ b ∨ Fre H b
  dom : ∀ b, Fre H' b → Fre H b
  io : ∀ (i : Nat) ds, ρ[i]? = some (SV.ow true ds) → σ'[i]? = σ[i]? ∧ ∃ ds', ρ'[i]? = some (SV.ow true ds')
  noio : ∀ (i : Nat) ds, ρ'[i]? = some (SV.ow true ds) → ∃ ds', ρ[i]? = some (SV.ow true ds')
section
variable {M : Mx} {F H F1 H1 F2 H2 F' H' : Hp} {σ σ1 σ2 : L2.St} {ρ ρ1 ρ2 : SE}
theorem Stp.refl (F H : Hp) (σ : L2.St) (ρ : SE) : Stp F H σ ρ F H σ ρ := ⟨Same.refl _, fun _ _ h _ _ => h, fun _ h => .inl h, fun _ _ h => .inl h, fun _ h => h, fun _ ds h => ⟨rfl, ds, h⟩, fun _ ds h => ⟨ds, h⟩⟩
theorem Stp.trans (a : Stp F H σ ρ F1 H1 σ1 ρ1) (b : Stp F1 H1 σ1 ρ1 F2 H2 σ2 ρ2) : Stp F H σ ρ F2 H2 σ2 ρ2 := by
  have back : ∀ x, Fre H1 x ∨ Own σ1 ρ1 x → Own σ ρ x ∨ Fre H x := fun x h => by
    rcases h with h | h
    · exact .inr (a.dom x h)
    · exact a.new x h
  refine ⟨a.same.trans b.same, fun x o h n nt' => ?_, fun x h => ?_, fun x o h => ?_, fun x h => a.dom x (b.dom x h), fun i ds h => ?_, fun i ds h => ?_⟩
  · refine b.keep x o (a.keep x o h n nt') (fun z => ?_) nt'
    rcases a.new x z with z | z
    · exact n z
    · exact z.no h nt'
  · rcases b.new x h with z | z
    · exact a.new x z
    · exact .inr (a.dom x z)
  · rcases b.newF x o h with z | z
    · exact a.newF x o z
    · exact .inr (back x z.symm)
  · obtain ⟨e1, ds1, h1⟩ := a.io i ds h
    obtain ⟨e2, ds2, h2⟩ := b.io i ds1 h1
    exact ⟨e2.trans e1, ds2, h2⟩
  · obtain ⟨ds1, h1⟩ := b.noio i ds h
    exact a.noio i ds1 h1
theorem SubF.both {F H : Hp} (h : SubF F H) {a : Addr} {o : HO} (nb : ∀ n vs, o ≠ bw n vs := by intro _ _ z; cases z) : SubF (upd F a o) (upd H a o) := by
  refine ⟨fun b u e n => ?_, fun b n vs e => ?_⟩
  · by_cases hb : b = a
    · subst hb
      rw [upd_same] at e ⊢
      exact e
    · rw [upd_ne hb] at e ⊢
      exact h.go _ _ e n
  · by_cases hb : b = a
    · subst hb
      rw [upd_same] at e
      exact (nb n vs (Option.some.inj e)).elim
    · rw [upd_ne hb] at e ⊢
      exact h.bk _ _ _ e
/-- .. of an object that stands in the heap already -/
theorem SubF.put {F H : Hp} (h : SubF F H) {a : Addr} {o : HO} (ho : H a = some o) (nb : ∀ n vs, o ≠ bw n vs) : SubF (upd F a o) H := by
  refine ⟨fun b u e n => ?_, fun b n vs e => ?_⟩
  · by_cases hb : b = a
    · subst hb
      rw [upd_same] at e
      rw [← e]
      exact ho
    · rw [upd_ne hb] at e
      exact h.go _ _ e n
  · by_cases hb : b = a
    · subst hb
      rw [upd_same] at e
      exact (nb n vs (Option.some.inj e)).elim
    · rw [upd_ne hb] at e
      exact h.bk _ _ _ e
/-- new objects alone: the frozen heap may take some of them -/
structure Alc (F H F' H' : Hp) : Prop where
  same : Same F F'
  sameH : Same H H'
  sub : SubF F' H'
  newF : ∀ b o, F' b = some o → F b = some o ∨ H b = none
  ntb : NoTb F → NoTb F'
theorem Alc.refl (h : SubF F H) : Alc F H F H := ⟨Same.refl _, Same.refl _, h, fun _ _ h => .inl h, id⟩
theorem Alc.trans (a : Alc F H F1 H1) (b : Alc F1 H1 F2 H2) : Alc F H F2 H2 := ⟨a.same.trans b.same, a.sameH.trans b.sameH, b.sub, fun x o h => by
  rcases b.newF x o h with z | z
  · exact a.newF x o z
  · exact .inr (a.sameH.free z), fun z => b.ntb (a.ntb z)⟩
theorem same_upd {a : Addr} {o : HO} (n : H a = none) : Same H (upd H a o) := fun b u h => by
  rw [upd_ne (ne_of_none h n)]
  exact h
/-- a new object that is not frozen -/
theorem Alc.new {a : Addr} {o : HO} (h : SubF F H) (n : H a = none) : Alc F H F (upd H a o) := ⟨Same.refl _, same_upd n, h.trans (same_upd n), fun _ _ h => .inl h, id⟩
/-- a new object that is frozen -/
theorem Alc.newF' {a : Addr} {o : HO} (h : SubF F H) (n : H a = none) (nt : ∀ ps, o ≠ .tbl ps := by intro _ z; cases z) (nb : ∀ n vs, o ≠ bw n vs := by intro _ _ z; cases z) : Alc F H (upd F a o) (upd H a o) := by
  have nF : F a = none := h.free n
  refine ⟨same_upd nF, same_upd n, h.both nb, fun b u e => ?_, fun z => z.upd nt⟩
  · by_cases hb : b = a
    · subst hb
      exact .inr n
    · rw [upd_ne hb] at e
      exact .inl e
theorem Alc.stp (a : Alc F H F' H') (σ : L2.St) (ρ : SE) : Stp F H σ ρ F' H' σ ρ :=
  ⟨a.same, fun b o h _ _ => a.sameH b o h, fun _ h => .inl h, fun b o h => (a.newF b o h).elim .inl fun z => .inr (.inr (.of z)), fun b h o q => h o (a.sameH _ _ q), fun _ ds h => ⟨rfl, ds, h⟩, fun _ ds h => ⟨ds, h⟩⟩
theorem Alc.free {a : Addr} {o : HO} (x : Alc F H F' H') (hF : F a = none) (hH : H a = some o) : F' a = none := by
  cases e : F' a with
  | none => rfl
  | some u =>
    rcases x.newF a u e with z | z
    · rw [hF] at z
      cases z
    · rw [hH] at z
      cases z
theorem Sim.alc (s : Sim M F H σ ρ) (a : Alc F H F' H') : Sim M F' H' σ ρ :=
  ⟨⟨a.sub, a.ntb s.ntb⟩, s.tabs.ext a.sameH, s.len, fun i d h => by
    obtain ⟨v, e, r⟩ := s.im i d h
    exact ⟨v, e, r.up a.same⟩, fun i io ds h => by
    obtain ⟨b, o, e, h1, h2, r⟩ := s.ow i io ds h
    exact ⟨b, o, e, a.sameH _ _ h1, a.free h2 h1, r.up a.same⟩, s.inj⟩
theorem Sim.ownF (s : Sim M F H σ ρ) {b : Addr} (h : Own σ ρ b) : F b = none ∧ ∃ o, H b = some o ∧ (∀ ps, o ≠ .tbl ps) := by
  obtain ⟨i, ⟨io, ds, e⟩, e2⟩ := h
  obtain ⟨a, o, e3, h1, h2, r⟩ := s.ow i io ds e
  rw [e2] at e3
  cases e3
  exact ⟨h2, o, h1, r.nt⟩
end

/-! ### what an expression gives -/
/-- data; a new list; the list that stands in a slot -/
inductive RV where
  | im (d : D) | ow (oc : OC) | bo (i : Nat)
structure Exc where
  cls : Str
  fs : List (Str × D)
inductive R (α : Type) where
  | bad | ok (a : α) (ρ : SE) | ex (e : Exc) (ρ : SE)
abbrev DM (α : Type) := SE → R α
def R.bind {α β : Type} (r : R α) (f : α → SE → R β) : R β := match r with
  | .bad => .bad
  | .ok a ρ => f a ρ
  | .ex e ρ => .ex e ρ
def RvOk (M : Mx) (H0 F H : Hp) (σ : L2.St) (ρ : SE) (v : V) : RV → Prop
  | .im d => Rep M F v d
  | .ow oc => ∃ a o, v = .ref a ∧ H a = some o ∧ F a = none ∧ OcRep M F o oc ∧ ¬ Own σ ρ a ∧ Fre H0 a
  | .bo i => isOw ρ i ∧ σ[i]? = some (some v)
def ExcOk (M : Mx) (F H : Hp) (cls : Value) (d : Option Addr) (e : Exc) : Prop :=
  cls = .ref (M.ca e.cls) ∧ ∃ dx vs, d = some dx ∧ F dx = some (.xd vs) ∧ RepF M F vs e.fs ∧ XcOk M.K (M.ca e.cls) (e.fs.map (·.1))
abbrev WX := Value → Option Addr → L2.St → Hp → Prop
def Post (M : Mx) (W : WX) (σ : L2.St) (ρ : SE) (F H : Hp) (r : R RV) (Q : VK) : Prop := match r with
  | .bad => False
  | .ok r ρ' => ∀ F' H' v, Stp F H σ ρ F' H' σ ρ' → Sim M F' H' σ ρ' → RvOk M H F' H' σ ρ' v r → Q v H'
  | .ex e ρ' => ∀ F' H' cls d, Stp F H σ ρ F' H' σ ρ' → Sim M F' H' σ ρ' → ExcOk M F' H' cls d e → W cls d σ H'
def PostT (M : Mx) (W : WX) (σ : L2.St) (ρ : SE) (F H : Hp) (r : R Bool) (Q : Bool → Hp → Prop) : Prop := match r with
  | .bad => False
  | .ok b ρ' => ∀ F' H', Stp F H σ ρ F' H' σ ρ' → Sim M F' H' σ ρ' → Q b H'
  | .ex e ρ' => ∀ F' H' cls d, Stp F H σ ρ F' H' σ ρ' → Sim M F' H' σ ρ' → ExcOk M F' H' cls d e → W cls d σ H'
/-- an argument: data, or a slot's list that the callee may change -/
inductive AV where
  | d (d : D) | io (i : Nat)
def AvOk (M : Mx) (F : Hp) (σ : L2.St) (ρ : SE) (v : V) : AV → Prop
  | .d d => Rep M F v d
  | .io i => isOw ρ i ∧ σ[i]? = some (some v)
inductive AvsOk (M : Mx) (F : Hp) (σ : L2.St) (ρ : SE) : List V → List AV → Prop
  | nil : AvsOk M F σ ρ [] []
  | cons {v : V} {vs : List V} {a : AV} {as : List AV} : AvOk M F σ ρ v a → AvsOk M F σ ρ vs as → AvsOk M F σ ρ (v :: vs) (a :: as)
def PostA (M : Mx) (W : WX) (σ : L2.St) (ρ : SE) (F H : Hp) (r : R (List AV)) (Q : List V → Hp → Prop) : Prop := match r with
  | .bad => False
  | .ok as ρ' => ∀ F' H' vs, Stp F H σ ρ F' H' σ ρ' → Sim M F' H' σ ρ' → AvsOk M F' σ ρ' vs as → Q vs H'
  | .ex e ρ' => ∀ F' H' cls d, Stp F H σ ρ F' H' σ ρ' → Sim M F' H' σ ρ' → ExcOk M F' H' cls d e → W cls d σ H'
inductive Fl where
  | nx | bk | ct | rt (r : RV)
def PostS (M : Mx) (W : WX) (σ : L2.St) (ρ : SE) (F H : Hp) (r : R Fl) (E : Ends) : Prop := match r with
  | .bad => False
  | .ok .nx ρ' => ∀ F' H' σ', Stp F H σ ρ F' H' σ' ρ' → Sim M F' H' σ' ρ' → E.nx σ' H'
  | .ok .bk ρ' => ∀ F' H' σ', Stp F H σ ρ F' H' σ' ρ' → Sim M F' H' σ' ρ' → E.bk σ' H'
  | .ok .ct ρ' => ∀ F' H' σ', Stp F H σ ρ F' H' σ' ρ' → Sim M F' H' σ' ρ' → E.ct σ' H'
  | .ok (.rt r) ρ' => ∀ F' H' σ' v, Stp F H σ ρ F' H' σ' ρ' → Sim M F' H' σ' ρ' → RvOk M H F' H' σ' ρ' v r → E.rt v H'
  | .ex e ρ' => ∀ F' H' σ' cls d, Stp F H σ ρ F' H' σ' ρ' → Sim M F' H' σ' ρ' → ExcOk M F' H' cls d e → W cls d σ' H'
/-! ### the judgements -/
def DE (X : Cx) (M : Mx) (W : WX) (e : Expr) (m : DM RV) : Prop := ∃ te, PE X e te ∧ ∀ σ H F ρ Q, Sim M F H σ ρ → Post M W σ ρ F H (m ρ) Q → te σ H Q
def DT (X : Cx) (M : Mx) (W : WX) (e : Expr) (m : DM Bool) : Prop := ∃ te, PT X e te ∧ ∀ σ H F ρ Q, Sim M F H σ ρ → PostT M W σ ρ F H (m ρ) Q → te σ H Q
def DW (X : Cx) (M : Mx) (W : WX) (e : Expr) (m : DM Bool) : Prop := ∃ te, PW X e te ∧ ∀ σ H F ρ Q, Sim M F H σ ρ → PostT M W σ ρ F H (m ρ) Q → te σ H Q
def DA (X : Cx) (M : Mx) (W : WX) (es : List Expr) (m : DM (List AV)) : Prop := ∃ t, PA X es t ∧ ∀ σ H F ρ Q, Sim M F H σ ρ → PostA M W σ ρ F H (m ρ) Q → t σ H Q
def DS (X : Cx) (M : Mx) (W : WX) (st : Stmt) (m : DM Fl) : Prop := ∃ t, PS X st t ∧ ∀ σ H F ρ E, Sim M F H σ ρ → PostS M W σ ρ F H (m ρ) E → t E σ H
def DSs (X : Cx) (M : Mx) (W : WX) (st : List Stmt) (m : DM Fl) : Prop := ∃ t, PSs X st t ∧ ∀ σ H F ρ E, Sim M F H σ ρ → PostS M W σ ρ F H (m ρ) E → t E σ H
end DL

/- part -/
set_option Elab.async false
set_option linter.all false
set_option maxRecDepth 100000
set_option maxHeartbeats 4000000
namespace DL
open PySem PySem.Spec PyProof.Rows L2
/-! ### looking at what came -/
/-- a lent list is looked at as a list -/
def unl : D → D
  | .tl _ ds => .lst ds
  | d => d
def look (ρ : SE) : RV → Option D
  | .im d => some (unl d)
  | .ow oc => some oc.D
  | .bo i => match ρ[i]? with
    | some (.ow _ oc) => some oc.D
    | _ => none
def Vw (M : Mx) (F H : Hp) (v : V) : D → Prop
  | .lst ds => ∃ a vs, v = .ref a ∧ H a = some (.lst vs) ∧ Reps M F vs ds
  | .obj c fs => ∃ a dx vs, v = .ref a ∧ H a = some (.ins (M.ca c) dx vs) ∧ RepF M F vs fs ∧ ObOk M.K (M.ca c) (fs.map (·.1))
  | d => Rep M F v d
section
variable {M : Mx} {W : WX} {F H F1 H1 F2 H2 F' H' H0 : Hp} {σ σ1 σ2 : L2.St} {ρ ρ1 ρ2 : SE}
theorem Vw.of (s : SubF F H) {v : V} {d : D} (h : Rep M F v d) : Vw M F H v (unl d) := by
  cases d with
  | lst ds =>
    cases h with
    | lst h1 h2 => exact ⟨_, _, rfl, s.go _ _ h1, h2⟩
  | obj c fs =>
    cases h with
    | obj h1 h2 h3 => exact ⟨_, _, _, rfl, s.go _ _ h1, h2, h3⟩
  | tl n ds =>
    cases h with
    | tl h1 h2 => exact ⟨_, _, rfl, s.bk _ _ _ h1, h2⟩
  | _ => exact h
theorem Vw.ofOc {v : V} {a : Addr} {o : HO} {oc : OC} (e : v = .ref a) (h : H a = some o) (r : OcRep M F o oc) : Vw M F H v oc.D := by
  cases r with
  | ls r => exact ⟨_, _, e, h, r⟩
  | ob r k => exact ⟨_, _, _, e, h, r, k⟩
theorem Vw.alc (x : Alc F H F' H') {v : V} {d : D} (h : Vw M F H v d) : Vw M F' H' v d := by
  cases d with
  | lst ds =>
    obtain ⟨a, vs, e, h1, h2⟩ := h
    exact ⟨a, vs, e, x.sameH _ _ h1, h2.up x.same⟩
  | obj c fs =>
    obtain ⟨a, dx, vs, e, h1, h2, h3⟩ := h
    exact ⟨a, dx, vs, e, x.sameH _ _ h1, h2.up x.same, h3⟩
  | _ => exact Rep.up x.same h
theorem RvOk.view {v : V} {r : RV} {d : D} (h : RvOk M H0 F1 H1 σ ρ1 v r) (st : Stp F1 H1 σ ρ1 F2 H2 σ ρ2) (sm : Sim M F2 H2 σ ρ2) (hl : look ρ2 r = some d) : Vw M F2 H2 v d := by
  cases r with
  | im e =>
    cases hl
    exact Vw.of sm.sub (Rep.up st.same h)
  | ow oc =>
    cases hl
    obtain ⟨a, o, e, h1, h2, h3, h4, h5⟩ := h
    exact Vw.ofOc e (st.keep _ _ h1 h4 h3.nt) (h3.up st.same)
  | bo i =>
    obtain ⟨_, h2⟩ := h
    have hl : (match ρ2[i]? with
      | some (.ow _ oc) => some oc.D
      | _ => none) = some d := hl
    split at hl
    · rename_i io oc e
      cases hl
      obtain ⟨a, o, e1, e2, e3, e4⟩ := sm.ow i io oc e
      rw [h2] at e1
      cases e1
      exact Vw.ofOc rfl e2 e4
    · cases hl
theorem RvOk.view0 {v : V} {r : RV} {d : D} (h : RvOk M H0 F1 H1 σ ρ1 v r) (sm : Sim M F1 H1 σ ρ1) (hl : look ρ1 r = some d) : Vw M F1 H1 v d := h.view (Stp.refl _ _ _ _) sm hl
/-- a value that an operation made, or found -/
def RvNew (M : Mx) (H F' H' : Hp) (v : V) : RV → Prop
  | .im d => Rep M F' v d
  | .ow oc => ∃ a o, v = .ref a ∧ H' a = some o ∧ F' a = none ∧ OcRep M F' o oc ∧ H a = none
  | .bo _ => False
theorem RvNew.ok {v : V} {r : RV} (h : RvNew M H1 F' H' v r) (sm : Sim M F1 H1 σ ρ1) (dom : ∀ b, Fre H1 b → Fre H0 b) : RvOk M H0 F' H' σ ρ1 v r := by
  cases r with
  | im d => exact h
  | ow ds =>
    obtain ⟨a, vs, e, h1, h2, h3, h4⟩ := h
    refine ⟨a, vs, e, h1, h2, h3, fun z => ?_, dom a (.of h4)⟩
    obtain ⟨_, o, e2, _⟩ := sm.ownF z
    rw [h4] at e2
    cases e2
  | bo i => exact h.elim
theorem RvNew.int {i : Int} : RvNew M H F' H' (.int i) (.im (.int i)) := Rep.int i
theorem RvNew.bl {i : Bool} : RvNew M H F' H' (.bl i) (.im (.bl i)) := Rep.bl i
theorem RvNew.str {i : Str} : RvNew M H F' H' (.str i) (.im (.str i)) := Rep.str i
def ofO {α : Type} (o : Option α) (ρ : SE) : R α := match o with
  | none => .bad
  | some a => .ok a ρ

/-! ### names, constants -/
variable {X : Cx}
def dVar (i : Nat) : DM RV := fun ρ => match ρ[i]? with
  | some (.im d) => .ok (.im d) ρ
  | some (.ow _ _) => .ok (.bo i) ρ
  | _ => .bad
theorem de_var (i : Nat) {x : Str} {pos : Pos} (hN : X.N[i]? = some x := by rfl) (hv : Vis X.env.scope x := by first | exact Or.inl rfl | exact Or.inr (Or.inl rfl) | exact Or.inr (Or.inr rfl)) (hd : (x == ("__debug__" : Str)) = false := by decide)
    (hcd : (x == ("__classdict__" : Str)) = false := by decide) : DE X M W (.Name x pos) (dVar i) := by
  refine ⟨_, pe_var hN hv hd hcd, fun σ H F ρ Q sm h => ?_⟩
  unfold dVar at h
  split at h
  · rename_i d e
    obtain ⟨v, e1, r⟩ := sm.im i d e
    exact ⟨v, e1, h F H v (Stp.refl _ _ _ _) sm r⟩
  · rename_i io ds e
    obtain ⟨a, vs, e1, _⟩ := sm.ow i io ds e
    exact ⟨_, e1, h F H _ (Stp.refl _ _ _ _) sm ⟨⟨io, ds, e⟩, e1⟩⟩
  · exact h.elim
def dC (d : D) : DM RV := fun ρ => .ok (.im d) ρ
theorem de_tC {e : Expr} {v : V} {d : D} (he : PE X e (tC v)) (r : ∀ F, Rep M F v d) : DE X M W e (dC d) :=
  ⟨_, he, fun σ H F ρ Q sm h => h F H v (Stp.refl _ _ _ _) sm (r F)⟩
theorem de_int {i j pos} : DE X M W (.Constant (.int i) j pos) (dC (.int i)) := de_tC pe_int fun _ => .int i
theorem de_bl {i j pos} : DE X M W (.Constant (.bool i) j pos) (dC (.bl i)) := de_tC pe_bl fun _ => .bl i
theorem de_str {i j pos} : DE X M W (.Constant (.str i) j pos) (dC (.str i)) := de_tC pe_str fun _ => .str i
theorem de_non {j pos} : DE X M W (.Constant .none j pos) (dC .non) := de_tC pe_non fun _ => .non
/-- a module's int, text, tuple, def -/
theorem de_glob {x : Str} {v : V} {u : Value} {d : D} {pos : Pos} (hg : Gl X x) (hm : X.mg x = some u) (r : RelV v u) (rd : ∀ F, Rep M F v d) (hd : (x == ("__debug__" : Str)) = false := by decide) : DE X M W (.Name x pos) (dC d) :=
  de_tC (pe_glob hg hm r hd) rd

/-! ### operators -/
def Op2 (M : Mx) (r : R2) (g : D → D → Option RV) : Prop := ∀ (F H : Hp) (x y : V) (d e : D) (rv : RV) (Q : VK), SubF F H → Vw M F H x d → Vw M F H y e → g d e = some rv → (∀ F' H' v, Alc F H F' H' → RvNew M H F' H' v rv → Q v H') → r x y H Q
def Op1 (M : Mx) (r : V → Hp → VK → Prop) (g : D → Option RV) : Prop := ∀ (F H : Hp) (x : V) (d : D) (rv : RV) (Q : VK), SubF F H → Vw M F H x d → g d = some rv → (∀ F' H' v, Alc F H F' H' → RvNew M H F' H' v rv → Q v H') → r x H Q
def dOp2 (g : D → D → Option RV) (ma mb : DM RV) : DM RV := fun ρ => (ma ρ).bind fun x ρ1 => (mb ρ1).bind fun y ρ2 => ofO ((look ρ2 x).bind fun d => (look ρ2 y).bind fun e => g d e) ρ2
def dOp1 (g : D → Option RV) (ma : DM RV) : DM RV := fun ρ => (ma ρ).bind fun x ρ1 => ofO ((look ρ1 x).bind g) ρ1
theorem bind_some2 {α β γ : Type} {x : Option α} {y : Option β} {g : α → β → Option γ} {r : γ} (h : (x.bind fun d => y.bind fun e => g d e) = some r) : ∃ d e, x = some d ∧ y = some e ∧ g d e = some r := by
  cases x with
  | none => cases h
  | some d =>
    cases y with
    | none => cases h
    | some e => exact ⟨d, e, rfl, rfl, h⟩
theorem bind_some1 {α γ : Type} {x : Option α} {g : α → Option γ} {r : γ} (h : x.bind g = some r) : ∃ d, x = some d ∧ g d = some r := by
  cases x with
  | none => cases h
  | some d => exact ⟨d, rfl, h⟩
/-- what one sees of a first part: what is wanted of the whole, told of the part -/
theorem Post.step {α : Type} {ma : R α} {Q : α → Prop} {P : Prop} (hb : ma = .bad → P) (ho : ∀ r ρ1, ma = .ok r ρ1 → P) (hx : ∀ e ρ1, ma = .ex e ρ1 → P) : P := by
  cases e : ma with
  | bad => exact hb e
  | ok r ρ1 => exact ho r ρ1 e
  | ex x ρ1 => exact hx x ρ1 e
theorem Post.go {r : R RV} {Q : VK} {g : RV → SE → R RV} (h : Post M W σ ρ F H (r.bind g) Q) {Q' : VK}
    (k : ∀ a ρ1 F1 H1 v, r = .ok a ρ1 → Stp F H σ ρ F1 H1 σ ρ1 → Sim M F1 H1 σ ρ1 → RvOk M H F1 H1 σ ρ1 v a → Post M W σ ρ F H (g a ρ1) Q → Q' v H1) : Post M W σ ρ F H r Q' := by
  cases r with
  | bad => exact h
  | ok a ρ1 => exact fun F1 H1 v st sm ok => k a ρ1 F1 H1 v rfl st sm ok h
  | ex e ρ1 => exact h
/-- what is wanted of the rest, told from the later state -/
theorem Post.from {r : R RV} {Q : VK} (st : Stp F H σ ρ F1 H1 σ ρ1) (h : Post M W σ ρ F H r Q) : Post M W σ ρ1 F1 H1 r Q := by
  cases r with
  | bad => exact h
  | ok a ρ2 =>
    refine fun F2 H2 v st2 sm ok => h F2 H2 v (st.trans st2) sm ?_
    cases a with
    | im d => exact ok
    | ow ds =>
      obtain ⟨a, vs, e, h1, h2, h3, h4, h5⟩ := ok
      exact ⟨a, vs, e, h1, h2, h3, h4, st.dom _ h5⟩
    | bo i => exact ok
  | ex e ρ2 => exact fun F2 H2 cls d st2 sm ok => h F2 H2 cls d (st.trans st2) sm ok
theorem Post.fin' {o : Option RV} {Q : VK} (h : Post M W σ ρ F H (ofO o ρ1) Q) (st : Stp F H σ ρ F1 H1 σ ρ1) (sm : Sim M F1 H1 σ ρ1) : ∃ rv, o = some rv ∧ ∀ F' H' v, Alc F1 H1 F' H' → RvNew M H1 F' H' v rv → Q v H' := by
  cases o with
  | none => exact h.elim
  | some rv => exact ⟨rv, rfl, fun F' H' v al nw => h F' H' v (st.trans (al.stp _ _)) (sm.alc al) (nw.ok sm st.dom)⟩
theorem de_tOp {a b e : Expr} {ma mb : DM RV} {r : R2} {g : D → D → Option RV} (ha : DE X M W a ma) (hb : DE X M W b mb) (o : Op2 M r g) (he : ∀ ta tb, PE X a ta → PE X b tb → PE X e (tOp r ta tb)) : DE X M W e (dOp2 g ma mb) := by
  obtain ⟨ta, pa, qa⟩ := ha
  obtain ⟨tb, pb, qb⟩ := hb
  refine ⟨_, he ta tb pa pb, fun σ H F ρ Q sm h => ?_⟩
  refine qa σ H F ρ _ sm (Post.go h fun x ρ1 F1 H1 v _ st1 sm1 ok1 h1 => ?_)
  refine qb σ H1 F1 ρ1 _ sm1 (Post.go (Post.from st1 h1) fun y ρ2 F2 H2 u _ st2 sm2 ok2 h2 => ?_)
  obtain ⟨rv, e, k⟩ := Post.fin' h2 st2 sm2
  obtain ⟨d, e', l1, l2, hg⟩ := bind_some2 e
  exact o F2 H2 v u d e' rv Q sm2.sub (ok1.view st2 sm2 l1) (ok2.view0 sm2 l2) hg k
theorem de_tUn {a e : Expr} {ma : DM RV} {r : V → Hp → VK → Prop} {g : D → Option RV} (ha : DE X M W a ma) (o : Op1 M r g) (he : ∀ ta, PE X a ta → PE X e (tUn r ta)) : DE X M W e (dOp1 g ma) := by
  obtain ⟨ta, pa, qa⟩ := ha
  refine ⟨_, he ta pa, fun σ H F ρ Q sm h => ?_⟩
  refine qa σ H F ρ _ sm (Post.go h fun x ρ1 F1 H1 v _ st1 sm1 ok1 h1 => ?_)
  obtain ⟨rv, e, k⟩ := Post.fin' h1 st1 sm1
  obtain ⟨d, l1, hg⟩ := bind_some1 e
  exact o F1 H1 v d rv Q sm1.sub (ok1.view0 sm1 l1) hg k
end
end DL

/- part -/
set_option Elab.async false
set_option linter.all false
set_option maxRecDepth 100000
set_option maxHeartbeats 4000000
namespace DL
open PySem PySem.Spec PyProof.Rows L2
section
variable {M : Mx} {W : WX} {X : Cx} {F H F' H' : Hp}
theorem szle {n : Nat} (h : n ≤ 1000000) : n ≤ sizeLine := by
  rw [sizeLine_eq]
  omega
theorem szlt {n : Nat} (h : n < 1000000) : n < sizeLine := by
  rw [sizeLine_eq]
  omega
/-! ### numbers -/
def cMul (i j : Int) : Bool := decide (i.natAbs.log2 + j.natAbs.log2 < 1000000)
def cDiv (j : Int) : Bool := decide (j ≠ 0 ∧ j.natAbs.log2 < 9000)
def cPow (i j : Int) : Bool := decide (0 ≤ j ∧ j ≤ 1000000 ∧ i.natAbs < 18446744073709551616)
def addD : D → D → Option RV
  | .int i, .int j => some (.im (.int (i + j)))
  | .str a, .str b => if a.length + b.length ≤ 1000000 then some (.im (.str (a ++ b))) else none
  | .lst a, .lst b => if a.length + b.length ≤ 1000000 then some (.ow (.ls (a ++ b))) else none
  | .tup a, .tup b => if a.length + b.length ≤ 1000000 then some (.im (.tup (a ++ b))) else none
  | _, _ => none
def subD : D → D → Option RV
  | .int i, .int j => some (.im (.int (i - j)))
  | _, _ => none
def mulD : D → D → Option RV
  | .int i, .int j => if cMul i j = true then some (.im (.int (i * j))) else none
  | _, _ => none
def fdivD : D → D → Option RV
  | .int i, .int j => if cDiv j = true then some (.im (.int (i.fdiv j))) else none
  | _, _ => none
def modD : D → D → Option RV
  | .int i, .int j => if j ≠ 0 then some (.im (.int (i.fmod j))) else none
  | _, _ => none
def powD : D → D → Option RV
  | .int i, .int j => if cPow i j = true then some (.im (.int (i ^ j.toNat))) else none
  | _, _ => none
theorem op_fdivG : OpR X (binaryOp .FloorDiv) (rI (fun _ j => j ≠ 0 ∧ j.natAbs.log2 < 9000) fun i j => .int (i.fdiv j)) := opI fun _ _ _ _ _ _ _ hc q => floordiv_int hc.1 q (.inl (PyProof.noPylong_of_log2 hc.2))
theorem some_ite {α : Type} {c : Prop} [Decidable c] {a r : α} (h : (if c then some a else none) = some r) : c ∧ a = r := by
  by_cases hc : c
  · rw [if_pos hc] at h
    exact ⟨hc, Option.some.inj h⟩
  · rw [if_neg hc] at h
    cases h
theorem vw_int {v : V} {i : Int} (h : Vw M F H v (.int i)) : v = .int i := by
  cases h
  rfl
theorem vw_bl {v : V} {i : Bool} (h : Vw M F H v (.bl i)) : v = .bl i := by
  cases h
  rfl
theorem vw_str {v : V} {i : Str} (h : Vw M F H v (.str i)) : v = .str i := by
  cases h
  rfl
theorem vw_non {v : V} (h : Vw M F H v .non) : v = .non := by
  cases h
  rfl
theorem vw_tup {v : V} {ds : List D} (h : Vw M F H v (.tup ds)) : ∃ a vs, v = .ref a ∧ SqT M.K F a vs ∧ Reps M F vs ds := by
  cases h with
  | tup h1 h2 => exact ⟨_, _, rfl, h1, h2⟩
/-- a new list, a new tuple -/
theorem new_lst (sub : SubF F H) {vs : List V} {ds : List D} (r : Reps M F vs ds) {Q : VK} (k : ∀ F' H' v, Alc F H F' H' → RvNew M H F' H' v (.ow (.ls ds)) → Q v H') {p : Addr} (hp : H p = none) : Q (.ref p) (upd H p (.lst vs)) :=
  k F _ _ (Alc.new sub hp) ⟨p, _, rfl, upd_same, sub.free hp, .ls r, hp⟩
theorem new_tup (sub : SubF F H) {vs : List V} {ds : List D} (r : Reps M F vs ds) {Q : VK} (k : ∀ F' H' v, Alc F H F' H' → RvNew M H F' H' v (.im (.tup ds)) → Q v H') {p : Addr} (hp : H p = none) : Q (.ref p) (upd H p (.tup vs)) :=
  k _ _ _ (Alc.newF' sub hp) (Rep.tup (.inl (.inl upd_same)) (r.up (same_upd (sub.free hp))))
abbrev rAddA (K : PySem.W.Frag) : R2 := fun x y H Q => rI0 (fun i j => .int (i + j)) x y H Q ∨ ((∃ i j, x = .str i ∧ y = .str j ∧ i.length + j.length ≤ sizeLine ∧ Q (.str (i ++ j)) H) ∨ (rCat x y H Q ∨ rCatA K x y H Q))
theorem op_addA : OpR X (binaryOp .Add) (rAddA X.K) := op_add.or (op_add_str.or (op_cat.or op_catA))
theorem reps_nil {vs : List V} (r : Reps M F vs []) : vs = [] := by
  cases r
  rfl
theorem o2_add : Op2 M (rAddA M.K) addD := by
  intro F H x y d e rv Q sub hx hy hg k
  unfold addD at hg
  split at hg
  · cases hg
    rw [vw_int hx, vw_int hy]
    exact .inl ⟨_, _, rfl, rfl, k _ _ _ (Alc.refl sub) RvNew.int⟩
  · obtain ⟨hc, e⟩ := some_ite hg
    subst e
    rw [vw_str hx, vw_str hy]
    exact .inr (.inl ⟨_, _, rfl, rfl, szle hc, k _ _ _ (Alc.refl sub) RvNew.str⟩)
  · obtain ⟨hc, e⟩ := some_ite hg
    subst e
    obtain ⟨a, vs, e1, h1, r1⟩ := hx
    obtain ⟨b, ws, e2, h2, r2⟩ := hy
    exact .inr (.inr (.inl ⟨a, b, vs, ws, e1, e2, h1, h2, by rw [r1.length, r2.length]; exact szle hc, fun p hp => new_lst sub (r1.append r2) k hp⟩))
  · obtain ⟨hc, e⟩ := some_ite hg
    subst e
    obtain ⟨a, vs, e1, h1, r1⟩ := vw_tup hx
    obtain ⟨b, ws, e2, h2, r2⟩ := vw_tup hy
    subst e1 e2
    refine .inr (.inr (.inr ⟨a, b, vs, ws, rfl, rfl, sub.sqT h1, sub.sqT h2, by rw [r1.length, r2.length]; exact szle hc, fun e => ?_, fun _ e => ?_, fun _ _ p hp => new_tup sub (r1.append r2) k hp⟩))
    · refine k _ _ _ (Alc.refl sub) (Rep.tup h2 ?_)
      have l := r1.length
      rw [e] at l
      cases r1
      · exact r2
      · cases l
    · refine k _ _ _ (Alc.refl sub) (Rep.tup h1 ?_)
      have l := r2.length
      rw [e] at l
      cases r2
      · rw [List.append_nil]
        exact r1
      · cases l
  · cases hg
theorem o2_sub : Op2 M (rI0 fun i j => .int (i - j)) subD := by
  intro F H x y d e rv Q sub hx hy hg k
  unfold subD at hg
  split at hg
  · cases hg
    rw [vw_int hx, vw_int hy]
    exact ⟨_, _, rfl, rfl, k _ _ _ (Alc.refl sub) RvNew.int⟩
  · cases hg
theorem o2_mul : Op2 M (rI CMulW fun i j => .int (i * j)) mulD := by
  intro F H x y d e rv Q sub hx hy hg k
  unfold mulD at hg
  split at hg
  · obtain ⟨hc, e⟩ := some_ite hg
    subst e
    rw [vw_int hx, vw_int hy]
    have hc' : CMulW _ _ := of_decide_eq_true (p := _ + _ < 1000000) hc
    exact ⟨_, _, rfl, rfl, hc', k _ _ _ (Alc.refl sub) RvNew.int⟩
  · cases hg
theorem o2_fdiv : Op2 M (rI (fun _ j => j ≠ 0 ∧ j.natAbs.log2 < 9000) fun i j => .int (i.fdiv j)) fdivD := by
  intro F H x y d e rv Q sub hx hy hg k
  unfold fdivD at hg
  split at hg
  · obtain ⟨hc, e⟩ := some_ite hg
    subst e
    rw [vw_int hx, vw_int hy]
    exact ⟨_, _, rfl, rfl, of_decide_eq_true hc, k _ _ _ (Alc.refl sub) RvNew.int⟩
  · cases hg
theorem o2_mod : Op2 M (rI (fun _ j => j ≠ 0) fun i j => .int (i.fmod j)) modD := by
  intro F H x y d e rv Q sub hx hy hg k
  unfold modD at hg
  split at hg
  · obtain ⟨hc, e⟩ := some_ite hg
    subst e
    rw [vw_int hx, vw_int hy]
    exact ⟨_, _, rfl, rfl, hc, k _ _ _ (Alc.refl sub) RvNew.int⟩
  · cases hg
theorem cPow_ok {i j : Int} (h : cPow i j = true) : CPow i j := by
  have h2 : 0 ≤ j ∧ j ≤ 1000000 ∧ i.natAbs < 18446744073709551616 := of_decide_eq_true h
  exact ⟨h2.1, h2.2.1, h2.2.2⟩
theorem o2_pow : Op2 M (rI CPow fun i j => .int (i ^ j.toNat)) powD := by
  intro F H x y d e rv Q sub hx hy hg k
  unfold powD at hg
  split at hg
  · obtain ⟨hc, e⟩ := some_ite hg
    subst e
    rw [vw_int hx, vw_int hy]
    exact ⟨_, _, rfl, rfl, cPow_ok hc, k _ _ _ (Alc.refl sub) RvNew.int⟩
  · cases hg
variable {a b c : Expr} {ma mb mc : DM RV} {pos : Pos}
theorem de_add (ha : DE X M W a ma) (hb : DE X M W b mb) (hK : M.K = X.K := by rfl) : DE X M W (.BinOp a .Add b pos) (dOp2 addD ma mb) := de_tOp ha hb o2_add fun ta tb p q => by
  rw [hK]
  exact pe_op op_addA p q
theorem de_sub (ha : DE X M W a ma) (hb : DE X M W b mb) : DE X M W (.BinOp a .Sub b pos) (dOp2 subD ma mb) := de_tOp ha hb o2_sub fun ta tb p q => pe_op op_sub p q
theorem de_mul (ha : DE X M W a ma) (hb : DE X M W b mb) : DE X M W (.BinOp a .Mult b pos) (dOp2 mulD ma mb) := de_tOp ha hb o2_mul fun ta tb p q => pe_op op_mulW p q
theorem de_fdiv (ha : DE X M W a ma) (hb : DE X M W b mb) : DE X M W (.BinOp a .FloorDiv b pos) (dOp2 fdivD ma mb) := de_tOp ha hb o2_fdiv fun ta tb p q => pe_op op_fdivG p q
theorem de_mod (ha : DE X M W a ma) (hb : DE X M W b mb) : DE X M W (.BinOp a .Mod b pos) (dOp2 modD ma mb) := de_tOp ha hb o2_mod fun ta tb p q => pe_op op_modN p q
theorem de_pow (ha : DE X M W a ma) (hb : DE X M W b mb) : DE X M W (.BinOp a .Pow b pos) (dOp2 powD ma mb) := de_tOp ha hb o2_pow fun ta tb p q => pe_op op_pow p q
def negD : D → Option RV
  | .int i => some (.im (.int (-i)))
  | _ => none
theorem o1_neg : Op1 M (rU fun i => .int (-i)) negD := by
  intro F H x d rv Q sub hx hg k
  unfold negD at hg
  split at hg
  · cases hg
    rw [vw_int hx]
    exact ⟨_, rfl, k _ _ _ (Alc.refl sub) RvNew.int⟩
  · cases hg
theorem de_neg (ha : DE X M W a ma) : DE X M W (.UnaryOp .USub a pos) (dOp1 negD ma) := de_tUn ha o1_neg fun ta p => pe_un un_neg p

/-! ### comparisons -/
mutual
def toPy : D → PyData
  | .non => .none
  | .bl b => .bool b
  | .int i => .int i
  | .str s => .str s
  | .tup xs => .tuple (toPys xs)
  | .lst xs => .list (toPys xs)
  | .scr ns => .list (ns.map PyData.int)
  | .obj _ _ => .dict []
  | .fn _ => .dict []
  | .exc _ _ => .dict []
  | .tl _ xs => .list (toPys xs)
def toPys : List D → List PyData
  | [] => []
  | d :: ds => toPy d :: toPys ds
/-- data without objects, not deeper than n -/
def plain : Nat → D → Bool
  | 0, _ => false
  | _ + 1, .obj _ _ => false
  | _ + 1, .fn _ => false
  | _ + 1, .exc _ _ => false
  | n + 1, .tup xs => plains n xs
  | n + 1, .lst xs => plains n xs
  | n + 1, .tl _ xs => plains n xs
  | _ + 1, _ => true
def plains : Nat → List D → Bool
  | _, [] => true
  | n, d :: ds => plain n d && plains n ds
end
theorem dp_ints : ∀ l : List Int, DpAll M.K H (l.map V.int) (l.map PyData.int)
  | [] => .nil
  | j :: l => .cons (.int j) (dp_ints l)
mutual
theorem Rep.dp (sub : SubF F H) : ∀ (n : Nat) (d : D) (v : V), plain n d = true → Rep M F v d → Dp M.K H v (toPy d)
  | 0, _, _, h, _ => by
    unfold plain at h
    cases h
  | n + 1, .non, _, _, r => by
    cases r
    exact .non
  | n + 1, .bl b, _, _, r => by
    cases r
    exact .bl b
  | n + 1, .int b, _, _, r => by
    cases r
    exact .int b
  | n + 1, .str b, _, _, r => by
    cases r
    exact .str b
  | n + 1, .tup xs, _, h, r => by
    cases r with
    | tup h1 h2 =>
      unfold plain at h
      unfold toPy
      exact .tup (sub.sqT h1) (Reps.dp sub n xs _ h h2)
  | n + 1, .lst xs, _, h, r => by
    cases r with
    | lst h1 h2 =>
      unfold plain at h
      unfold toPy
      exact .lst (.inl (.inl (sub.go _ _ h1))) (Reps.dp sub n xs _ h h2)
  | n + 1, .scr ns, _, _, r => by
    cases r with
    | scr h1 =>
      unfold toPy
      exact .lst (sub.sqL h1) (dp_ints ns)
  | n + 1, .obj _ _, _, h, _ => by
    unfold plain at h
    cases h
  | n + 1, .fn _, _, h, _ => by
    unfold plain at h
    cases h
  | n + 1, .exc _ _, _, h, _ => by
    unfold plain at h
    cases h
  | n + 1, .tl _ xs, _, h, r => by
    cases r with
    | tl h1 h2 =>
      unfold plain at h
      unfold toPy
      exact .lst (.inl (.inl (sub.bk _ _ _ h1))) (Reps.dp sub n xs _ h h2)
theorem Reps.dp (sub : SubF F H) : ∀ (n : Nat) (ds : List D) (vs : List V), plains n ds = true → Reps M F vs ds → DpAll M.K H vs (toPys ds)
  | _, [], _, _, r => by
    cases r
    exact .nil
  | n, d :: ds, _, h, r => by
    unfold plains at h
    obtain ⟨h1, h2⟩ := Bool.and_eq_true_iff.mp h
    cases r with
    | cons r1 r2 =>
      unfold toPys
      exact .cons (Rep.dp sub n d _ h1 r1) (Reps.dp sub n ds _ h2 r2)
end
end
end DL

/- part -/
set_option Elab.async false
set_option linter.all false
set_option maxRecDepth 100000
set_option maxHeartbeats 4000000
namespace DL
open PySem PySem.Spec PyProof.Rows L2
section
variable {M : Mx} {W : WX} {X : Cx} {F H F' H' F1 H1 H0 : Hp} {σ : L2.St} {ρ ρ1 : SE}
/-! ### == and its kin -/
def okc (d : D) : Bool := plain 64 d && SeqAt.shaped (toPy d)
def eqv (d e : D) : Bool := PyData.eqv (toPy d) (toPy e)
def eqD (d e : D) : Option RV := if (okc d && okc e) = true then some (.im (.bl (eqv d e))) else none
def neD (d e : D) : Option RV := if (okc d && okc e) = true then some (.im (.bl (!eqv d e))) else none
theorem Vw.dp {v : V} {d : D} (s : SubF F H) (h : Vw M F H v d) (o : plain 64 d = true) : Dp M.K H v (toPy d) := by
  cases d with
  | lst ds =>
    obtain ⟨a, vs, e, h1, h2⟩ := h
    subst e
    unfold plain at o
    unfold toPy
    exact .lst (.inl (.inl h1)) (Reps.dp s 63 ds _ o h2)
  | obj c fs =>
    unfold plain at o
    cases o
  | _ => exact Rep.dp s 64 _ _ o h
theorem o2_eq : Op2 M (rEqD M.K) eqD := by
  intro F H x y d e rv Q sub hx hy hg k
  obtain ⟨hc, e1⟩ := some_ite hg
  subst e1
  obtain ⟨h1, h2⟩ := Bool.and_eq_true_iff.mp hc
  obtain ⟨p1, q1⟩ := Bool.and_eq_true_iff.mp h1
  obtain ⟨p2, q2⟩ := Bool.and_eq_true_iff.mp h2
  exact ⟨_, _, hx.dp sub p1, hy.dp sub p2, q1, q2, k _ _ _ (Alc.refl sub) RvNew.bl⟩
theorem o2_ne : Op2 M (rNeD M.K) neD := by
  intro F H x y d e rv Q sub hx hy hg k
  obtain ⟨hc, e1⟩ := some_ite hg
  subst e1
  obtain ⟨h1, h2⟩ := Bool.and_eq_true_iff.mp hc
  obtain ⟨p1, q1⟩ := Bool.and_eq_true_iff.mp h1
  obtain ⟨p2, q2⟩ := Bool.and_eq_true_iff.mp h2
  exact ⟨_, _, hx.dp sub p1, hy.dp sub p2, q1, q2, k _ _ _ (Alc.refl sub) RvNew.bl⟩
def ltD : D → D → Option RV
  | .int i, .int j => some (.im (.bl (decide (i < j))))
  | .str i, .str j => some (.im (.bl (decide (i.cps.toList < j.cps.toList))))
  | _, _ => none
def leD : D → D → Option RV
  | .int i, .int j => some (.im (.bl (decide (i ≤ j))))
  | _, _ => none
def gtD : D → D → Option RV
  | .int i, .int j => some (.im (.bl (decide (j < i))))
  | _, _ => none
def geD : D → D → Option RV
  | .int i, .int j => some (.im (.bl (decide (j ≤ i))))
  | _, _ => none
abbrev rLtA : R2 := fun x y H Q => rI0 (fun i j => .bl (decide (i < j))) x y H Q ∨ ∃ i j, x = .str i ∧ y = .str j ∧ Q (.bl (decide (i.cps.toList < j.cps.toList))) H
theorem op_ltA : OpR X (compareOp .Lt) rLtA := op_lt.or op_lt_str
theorem o2_lt : Op2 M rLtA ltD := by
  intro F H x y d e rv Q sub hx hy hg k
  unfold ltD at hg
  split at hg
  · cases hg
    rw [vw_int hx, vw_int hy]
    exact .inl ⟨_, _, rfl, rfl, k _ _ _ (Alc.refl sub) RvNew.bl⟩
  · cases hg
    rw [vw_str hx, vw_str hy]
    exact .inr ⟨_, _, rfl, rfl, k _ _ _ (Alc.refl sub) RvNew.bl⟩
  · cases hg
theorem o2_le : Op2 M (rI0 fun i j => .bl (decide (i ≤ j))) leD := by
  intro F H x y d e rv Q sub hx hy hg k
  unfold leD at hg
  split at hg
  · cases hg
    rw [vw_int hx, vw_int hy]
    exact ⟨_, _, rfl, rfl, k _ _ _ (Alc.refl sub) RvNew.bl⟩
  · cases hg
theorem o2_gt : Op2 M (rI0 fun i j => .bl (decide (j < i))) gtD := by
  intro F H x y d e rv Q sub hx hy hg k
  unfold gtD at hg
  split at hg
  · cases hg
    rw [vw_int hx, vw_int hy]
    exact ⟨_, _, rfl, rfl, k _ _ _ (Alc.refl sub) RvNew.bl⟩
  · cases hg
theorem o2_ge : Op2 M (rI0 fun i j => .bl (decide (j ≤ i))) geD := by
  intro F H x y d e rv Q sub hx hy hg k
  unfold geD at hg
  split at hg
  · cases hg
    rw [vw_int hx, vw_int hy]
    exact ⟨_, _, rfl, rfl, k _ _ _ (Alc.refl sub) RvNew.bl⟩
  · cases hg
/-! in: one sign in a text; flat things in a list or a tuple; data in a list -/
def flat : D → Bool
  | .non | .bl _ | .int _ | .str _ => true
  | _ => false
def inD (neg : Bool) : D → D → Option RV
  | .str a, .str b => if a.length = 1 then some (.im (.bl (neg != decide (a.cps.getD 0 0 ∈ b.cps.toList)))) else none
  | x, .tup ds => if (flat x && ds.all flat) = true then some (.im (.bl (neg != ds.any fun y => eqv y x))) else none
  | x, .lst ds => if (okc x && okc (.lst ds)) = true then some (.im (.bl (neg != ds.any fun y => eqv y x))) else none
  | _, _ => none
theorem str_one {a : Str} (h : a.length = 1) : a = ⟨#[a.cps.getD 0 0]⟩ := by
  obtain ⟨⟨l⟩⟩ := a
  have h : l.length = 1 := h
  cases l with
  | nil => cases h
  | cons c r =>
    cases r with
    | nil => rfl
    | cons c2 r => cases h
theorem flat_rep {v : V} {d : D} (f : flat d = true) (r : Rep M F v d) : flatV v = true := by
  cases r <;> first
    | rfl
    | (unfold flat at f; cases f)
theorem flat_all : ∀ {vs : List V} {ds : List D}, ds.all flat = true → Reps M F vs ds → vs.all flatV = true
  | _, _, _, .nil => rfl
  | _, _, f, .cons r t => by
    rw [List.all_cons] at f ⊢
    obtain ⟨f1, f2⟩ := Bool.and_eq_true_iff.mp f
    rw [flat_rep f1 r, flat_all f2 t]
    rfl
theorem eqV_rep {v w : V} {d e : D} (f : flat d = true) (f2 : flat e = true) (r : Rep M F v d) (r2 : Rep M F w e) : eqV v w = eqv d e := by
  cases r <;> cases r2 <;> first
    | rfl
    | (unfold flat at f; cases f)
    | (unfold flat at f2; cases f2)
theorem any_rep {w : V} {e : D} (f2 : flat e = true) (r2 : Rep M F w e) : ∀ {vs : List V} {ds : List D}, ds.all flat = true → Reps M F vs ds → (vs.any fun y => eqV y w) = ds.any fun y => eqv y e
  | _, _, _, .nil => rfl
  | _, _, f, .cons r t => by
    rw [List.all_cons] at f
    obtain ⟨f1, f3⟩ := Bool.and_eq_true_iff.mp f
    rw [List.any_cons, List.any_cons, eqV_rep f1 f2 r r2, any_rep f2 r2 f3 t]
theorem toPys_map : ∀ ds : List D, toPys ds = ds.map toPy
  | [] => rfl
  | d :: ds => by
    unfold toPys
    rw [toPys_map ds]
    rfl
abbrev rInA (K : PySem.W.Frag) (neg : Bool) : R2 := fun x y H Q => (∃ (c : Nat) (z : Str), x = .str ⟨#[c]⟩ ∧ y = .str z ∧ Q (.bl (neg != decide (c ∈ z.cps.toList))) H) ∨ (rIn K neg x y H Q ∨ ∃ d ds, Dp K H x d ∧ Dp K H y (.list ds) ∧ SeqAt.shaped d = true ∧ SeqAt.shaped (.list ds) = true ∧ Q (.bl (neg != ds.any fun z => PyData.eqv z d)) H)
theorem op_inA (hu : X.A.units + 65 < cLine) : OpR X (compareOp .In) (rInA X.K false) := by
  refine OpR.or ?_ (OpR.or op_in_seq ?_)
  · intro pins s σ H x y v u Q I rx ry ⟨c, z, h1, h2, q⟩
    exact op_in_sign pins s σ H x y v u Q I rx ry ⟨c, z, h1, h2, by simpa using q⟩
  · intro pins s σ H x y v u Q I rx ry ⟨d, ds, h1, h2, h3, h4, q⟩
    exact op_inD hu pins s σ H x y v u Q I rx ry ⟨d, ds, h1, h2, h3, h4, by simpa using q⟩
theorem op_notInA (hu : X.A.units + 65 < cLine) : OpR X (compareOp .NotIn) (rInA X.K true) := by
  refine OpR.or ?_ (OpR.or op_notIn_seq ?_)
  · intro pins s σ H x y v u Q I rx ry ⟨c, z, h1, h2, q⟩
    exact op_notIn_sign pins s σ H x y v u Q I rx ry ⟨c, z, h1, h2, by simpa using q⟩
  · intro pins s σ H x y v u Q I rx ry ⟨d, ds, h1, h2, h3, h4, q⟩
    exact op_notInD hu pins s σ H x y v u Q I rx ry ⟨d, ds, h1, h2, h3, h4, by simpa using q⟩
theorem o2_in (neg : Bool) : Op2 M (rInA M.K neg) (inD neg) := by
  intro F H x y d e rv Q sub hx hy hg k
  unfold inD at hg
  split at hg
  · rename_i a b
    obtain ⟨hc, e1⟩ := some_ite hg
    subst e1
    have e2 := vw_str hx
    rw [str_one hc] at e2
    exact .inl ⟨_, _, e2, vw_str hy, k _ _ _ (Alc.refl sub) RvNew.bl⟩
  · rename_i ds
    obtain ⟨hc, e1⟩ := some_ite hg
    subst e1
    obtain ⟨f1, f2⟩ := Bool.and_eq_true_iff.mp hc
    obtain ⟨a, vs, ea, h1, r1⟩ := vw_tup hy
    have rx : Rep M F x d := by
      cases d <;> first
        | exact hx
        | (unfold flat at f1; cases f1)
    refine .inr (.inl ⟨a, vs, ea, .inr (sub.sqT h1), flat_rep f1 rx, flat_all f2 r1, ?_⟩)
    have q := k _ _ _ (Alc.refl sub) (RvNew.bl (i := neg != ds.any fun y => eqv y d))
    have e3 : (if neg = true then !inV x vs else inV x vs) = (neg != ds.any fun y => eqv y d) := by
      unfold inV
      rw [any_rep f1 rx f2 r1]
      cases neg <;> simp
    rw [e3]
    exact q
  · rename_i ds
    obtain ⟨hc, e1⟩ := some_ite hg
    subst e1
    obtain ⟨f1, f2⟩ := Bool.and_eq_true_iff.mp hc
    obtain ⟨p1, q1⟩ := Bool.and_eq_true_iff.mp f1
    obtain ⟨p2, q2⟩ := Bool.and_eq_true_iff.mp f2
    refine .inr (.inr ⟨_, _, hx.dp sub p1, hy.dp sub p2, q1, q2, ?_⟩)
    have q := k _ _ _ (Alc.refl sub) (RvNew.bl (i := neg != ds.any fun y => eqv y d))
    have e3 : ((toPys ds).any fun z => PyData.eqv z (toPy d)) = ds.any fun y => eqv y d := by
      rw [toPys_map, List.any_map]
      rfl
    rw [e3]
    exact q
  · cases hg
def isNone : D → Bool
  | .non => true
  | _ => false
def isND (neg : Bool) (d : D) : D → Option RV
  | .non => some (.im (.bl (neg != isNone d)))
  | _ => none
theorem vw_isNone {v : V} {d : D} (h : Vw M F H v d) : decide (v = .non) = isNone d := by
  have kn : ∀ v : V, v ≠ .non → decide (v = .non) = false := fun v hv => decide_eq_false hv
  cases d with
  | non =>
    have e := vw_non h
    subst e
    exact decide_eq_true rfl
  | lst ds =>
    obtain ⟨a, vs, e, _⟩ := h
    subst e
    exact kn _ (by intro z; cases z)
  | bl _ => exact kn _ (by rw [vw_bl h]; intro z; cases z)
  | int _ => exact kn _ (by rw [vw_int h]; intro z; cases z)
  | str _ => exact kn _ (by rw [vw_str h]; intro z; cases z)
  | tup _ =>
    cases h
    exact kn _ (by intro z; cases z)
  | scr _ =>
    cases h
    exact kn _ (by intro z; cases z)
  | obj _ _ =>
    obtain ⟨a, dx, vs, e, _⟩ := h
    subst e
    exact kn _ (by intro z; cases z)
  | tl _ _ =>
    cases h
    exact kn _ (by intro z; cases z)
  | fn _ =>
    cases h
    exact kn _ (by intro z; cases z)
  | exc _ _ =>
    cases h
    exact kn _ (by intro z; cases z)
theorem o2_isN : Op2 M (fun x y H Q => y = .non ∧ Q (.bl (decide (x = .non))) H) (isND false) := by
  intro F H x y d e rv Q sub hx hy hg k
  unfold isND at hg
  split at hg
  · cases hg
    rw [vw_isNone hx]
    exact ⟨vw_non hy, by simpa using k _ _ _ (Alc.refl sub) RvNew.bl⟩
  · cases hg
theorem o2_notN : Op2 M (fun x y H Q => y = .non ∧ Q (.bl (!decide (x = .non))) H) (isND true) := by
  intro F H x y d e rv Q sub hx hy hg k
  unfold isND at hg
  split at hg
  · cases hg
    rw [vw_isNone hx]
    exact ⟨vw_non hy, by simpa using k _ _ _ (Alc.refl sub) RvNew.bl⟩
  · cases hg
variable {a b c : Expr} {ma mb mc : DM RV} {pos : Pos}
theorem de_eq (ha : DE X M W a ma) (hb : DE X M W b mb) (hu : X.A.units + 64 < cLine) (hK : M.K = X.K := by rfl) : DE X M W (.Compare a [.Eq] [b] pos) (dOp2 eqD ma mb) := de_tOp ha hb o2_eq fun ta tb p q => by
  rw [hK]
  exact pe_cmpR (op_eqD hu) p q (nomark _)
theorem de_ne (ha : DE X M W a ma) (hb : DE X M W b mb) (hu : X.A.units + 64 < cLine) (hK : M.K = X.K := by rfl) : DE X M W (.Compare a [.NotEq] [b] pos) (dOp2 neD ma mb) := de_tOp ha hb o2_ne fun ta tb p q => by
  rw [hK]
  exact pe_cmpR (op_neD hu) p q (nomark _)
theorem de_lt (ha : DE X M W a ma) (hb : DE X M W b mb) : DE X M W (.Compare a [.Lt] [b] pos) (dOp2 ltD ma mb) := de_tOp ha hb o2_lt fun ta tb p q => pe_cmpR op_ltA p q (nomark _)
theorem de_le (ha : DE X M W a ma) (hb : DE X M W b mb) : DE X M W (.Compare a [.LtE] [b] pos) (dOp2 leD ma mb) := de_tOp ha hb o2_le fun ta tb p q => pe_cmpR op_le p q (nomark _)
theorem de_gt (ha : DE X M W a ma) (hb : DE X M W b mb) : DE X M W (.Compare a [.Gt] [b] pos) (dOp2 gtD ma mb) := de_tOp ha hb o2_gt fun ta tb p q => pe_cmpR op_gt p q (nomark _)
theorem de_ge (ha : DE X M W a ma) (hb : DE X M W b mb) : DE X M W (.Compare a [.GtE] [b] pos) (dOp2 geD ma mb) := de_tOp ha hb o2_ge fun ta tb p q => pe_cmpR op_ge p q (nomark _)
theorem de_isN (ha : DE X M W a ma) (hb : DE X M W b mb) : DE X M W (.Compare a [.Is] [b] pos) (dOp2 (isND false) ma mb) := de_tOp ha hb o2_isN fun ta tb p q => pe_cmpR op_isN p q (nomark _)
theorem de_notN (ha : DE X M W a ma) (hb : DE X M W b mb) : DE X M W (.Compare a [.IsNot] [b] pos) (dOp2 (isND true) ma mb) := de_tOp ha hb o2_notN fun ta tb p q => pe_cmpR op_notN p q (nomark _)
theorem de_in (ha : DE X M W a ma) (hb : DE X M W b mb) (hu : X.A.units + 65 < cLine) (hm : behindInMarks .In b = false := by rfl) (hK : M.K = X.K := by rfl) : DE X M W (.Compare a [.In] [b] pos) (dOp2 (inD false) ma mb) := de_tOp ha hb (o2_in false) fun ta tb p q => by
  rw [hK]
  exact pe_cmpR (op_inA hu) p q hm
theorem de_notIn (ha : DE X M W a ma) (hb : DE X M W b mb) (hu : X.A.units + 65 < cLine) (hm : behindInMarks .NotIn b = false := by rfl) (hK : M.K = X.K := by rfl) : DE X M W (.Compare a [.NotIn] [b] pos) (dOp2 (inD true) ma mb) := de_tOp ha hb (o2_in true) fun ta tb p q => by
  rw [hK]
  exact pe_cmpR (op_notInA hu) p q hm
/-- a < b < c -/
def dChain (g g' : D → D → Option RV) (ma mb mc : DM RV) : DM RV := fun ρ => (ma ρ).bind fun x ρ1 => (mb ρ1).bind fun y ρ2 => match (look ρ2 x).bind fun d => (look ρ2 y).bind fun e => g d e with
  | some (.im (.bl false)) => .ok (.im (.bl false)) ρ2
  | some (.im (.bl true)) => (mc ρ2).bind fun z ρ3 => ofO ((look ρ3 y).bind fun d => (look ρ3 z).bind fun e => g' d e) ρ3
  | _ => .bad
theorem Post.from2 {r : R RV} {Q : VK} {ρ2 : SE} {F2 H2 : Hp} (st : Stp F H σ ρ F1 H1 σ ρ1) (st2 : Stp F1 H1 σ ρ1 F2 H2 σ ρ2) (h : Post M W σ ρ F H r Q) : Post M W σ ρ2 F2 H2 r Q := Post.from (st.trans st2) h
theorem de_chain {op op' : CmpOp} {r r' : R2} {g g' : D → D → Option RV} (ho : OpR X (compareOp op) r) (ho' : OpR X (compareOp op') r') (o : Op2 M r g) (o' : Op2 M r' g') (ha : DE X M W a ma) (hb : DE X M W b mb) (hc : DE X M W c mc) (hpc : ∀ ta tb tc, PE X a ta → PE X b tb → PE X c tc → PE X (.Compare a [op, op'] [b, c] pos) (tChain r r' ta tb tc)) : DE X M W (.Compare a [op, op'] [b, c] pos) (dChain g g' ma mb mc) := by
  obtain ⟨ta, pa, qa⟩ := ha
  obtain ⟨tb, pb, qb⟩ := hb
  obtain ⟨tc, pc, qc⟩ := hc
  refine ⟨_, hpc ta tb tc pa pb pc, fun σ H F ρ Q sm h => ?_⟩
  refine qa σ H F ρ _ sm (Post.go h fun x ρ1 F1 H1 v _ st1 sm1 ok1 h1 => ?_)
  refine qb σ H1 F1 ρ1 _ sm1 (Post.go (Post.from st1 h1) fun y ρ2 F2 H2 u _ st2 sm2 ok2 h2 => ?_)
  split at h2
  · rename_i e
    obtain ⟨d, e', l1, l2, hg⟩ := bind_some2 e
    refine o F2 H2 v u d e' _ _ sm2.sub (ok1.view st2 sm2 l1) (ok2.view0 sm2 l2) hg fun F' H' z al nw => ?_
    cases nw
    exact ⟨false, rfl, by
      rw [if_neg Bool.false_ne_true]
      exact h2 F' H' _ (st2.trans (al.stp _ _)) (sm2.alc al) (Rep.bl false)⟩
  · rename_i e
    obtain ⟨d, e', l1, l2, hg⟩ := bind_some2 e
    refine o F2 H2 v u d e' _ _ sm2.sub (ok1.view st2 sm2 l1) (ok2.view0 sm2 l2) hg fun F' H' z al nw => ?_
    cases nw
    refine ⟨true, rfl, ?_⟩
    rw [if_pos rfl]
    refine qc σ H' F' ρ2 _ (sm2.alc al) (Post.go (Post.from ((st2.trans (al.stp _ _))) h2) fun zr ρ3 F3 H3 w _ st3 sm3 ok3 h3 => ?_)
    obtain ⟨rv, e3, k⟩ := Post.fin' h3 st3 sm3
    obtain ⟨d2, e2, l3, l4, hg2⟩ := bind_some2 e3
    exact o' F3 H3 u w d2 e2 rv Q sm3.sub (ok2.view ((al.stp _ _).trans st3) sm3 l3) (ok3.view0 sm3 l4) hg2 k
  · exact h2.elim
end
end DL

/- part -/
set_option Elab.async false
set_option linter.all false
set_option maxRecDepth 100000
set_option maxHeartbeats 4000000
namespace DL
open PySem PySem.Spec PyProof.Rows L2
section
variable {M : Mx} {W : WX} {X : Cx} {F H F' H' F1 H1 H0 : Hp} {σ : L2.St} {ρ ρ1 : SE}
variable {a b c e : Expr} {ma mb mc m : DM RV} {mt mu : DM Bool} {pos : Pos}
/-! ### tests -/
def asB (r : RV) (ρ : SE) : R Bool := match r with
  | .im (.bl b) => .ok b ρ
  | _ => .bad
theorem PostT.go {r : R RV} {Q : Bool → Hp → Prop} (h : PostT M W σ ρ F H (r.bind asB) Q) : Post M W σ ρ F H r (fun v H' => ∃ k, v = .bl k ∧ Q k H') := by
  cases r with
  | bad => exact h
  | ok a ρ1 =>
    cases a with
    | im d =>
      cases d with
      | bl b =>
        intro F1 H1 v st sm ok
        cases ok
        exact ⟨b, rfl, h F1 H1 st sm⟩
      | _ => exact h.elim
    | _ => exact h.elim
  | ex e ρ1 => exact h
theorem PostT.step {r : R Bool} {Q : Bool → Hp → Prop} {g : Bool → SE → R Bool} (h : PostT M W σ ρ F H (r.bind g) Q) {Q' : Bool → Hp → Prop}
    (k : ∀ a ρ1 F1 H1, r = .ok a ρ1 → Stp F H σ ρ F1 H1 σ ρ1 → Sim M F1 H1 σ ρ1 → PostT M W σ ρ F H (g a ρ1) Q → Q' a H1) : PostT M W σ ρ F H r Q' := by
  cases r with
  | bad => exact h
  | ok a ρ1 => exact fun F1 H1 st sm => k a ρ1 F1 H1 rfl st sm h
  | ex e ρ1 => exact h
theorem PostT.from {r : R Bool} {Q : Bool → Hp → Prop} (st : Stp F H σ ρ F1 H1 σ ρ1) (h : PostT M W σ ρ F H r Q) : PostT M W σ ρ1 F1 H1 r Q := by
  cases r with
  | bad => exact h
  | ok a ρ2 => exact fun F2 H2 st2 sm => h F2 H2 (st.trans st2) sm
  | ex e ρ2 => exact fun F2 H2 cls d st2 sm ok => h F2 H2 cls d (st.trans st2) sm ok
/-- a test, then data -/
theorem PostT.goE {r : R Bool} {Q : VK} {g : Bool → SE → R RV} (h : Post M W σ ρ F H (r.bind g) Q) {Q' : Bool → Hp → Prop}
    (k : ∀ a ρ1 F1 H1, r = .ok a ρ1 → Stp F H σ ρ F1 H1 σ ρ1 → Sim M F1 H1 σ ρ1 → Post M W σ ρ F H (g a ρ1) Q → Q' a H1) : PostT M W σ ρ F H r Q' := by
  cases r with
  | bad => exact h
  | ok a ρ1 => exact fun F1 H1 st sm => k a ρ1 F1 H1 rfl st sm h
  | ex e ρ1 => exact h
theorem dt_mk {te : TE} (q : ∀ σ H F ρ Q, Sim M F H σ ρ → Post M W σ ρ F H (m ρ) Q → te σ H Q) (p : PT X e (tTest te)) : DT X M W e (fun ρ => (m ρ).bind asB) :=
  ⟨_, p, fun σ H F ρ Q sm h => q σ H F ρ _ sm (PostT.go h)⟩
theorem dt_val (h : DE X M W e m) (he : ∀ whole, isTrue e X.env whole = (do let v ← whole; standAt e.pos; holding [v] (truthy v)) := by intro _; rfl) : DT X M W e (fun ρ => (m ρ).bind asB) := by
  obtain ⟨te, p, q⟩ := h
  exact dt_mk q (pt_val p he)
theorem q_tOp {ta tb : TE} {r : R2} {g : D → D → Option RV} (qa : ∀ σ H F ρ Q, Sim M F H σ ρ → Post M W σ ρ F H (ma ρ) Q → ta σ H Q) (qb : ∀ σ H F ρ Q, Sim M F H σ ρ → Post M W σ ρ F H (mb ρ) Q → tb σ H Q) (o : Op2 M r g) :
    ∀ σ H F ρ Q, Sim M F H σ ρ → Post M W σ ρ F H (dOp2 g ma mb ρ) Q → tOp r ta tb σ H Q := fun σ H F ρ Q sm h => by
  refine qa σ H F ρ _ sm (Post.go h fun x ρ1 F1 H1 v _ st1 sm1 ok1 h1 => ?_)
  refine qb σ H1 F1 ρ1 _ sm1 (Post.go (Post.from st1 h1) fun y ρ2 F2 H2 u _ st2 sm2 ok2 h2 => ?_)
  obtain ⟨rv, e, k⟩ := Post.fin' h2 st2 sm2
  obtain ⟨d, e', l1, l2, hg⟩ := bind_some2 e
  exact o F2 H2 v u d e' rv Q sm2.sub (ok1.view st2 sm2 l1) (ok2.view0 sm2 l2) hg k
theorem dt_tOp {r : R2} {g : D → D → Option RV} {op : CmpOp} (ho : OpR X (compareOp op) r) (ha : DE X M W a ma) (hb : DE X M W b mb) (o : Op2 M r g) (hm : behindInMarks op b = false) : DT X M W (.Compare a [op] [b] pos) (fun ρ => (dOp2 g ma mb ρ).bind asB) := by
  obtain ⟨ta, pa, qa⟩ := ha
  obtain ⟨tb, pb, qb⟩ := hb
  exact dt_mk (q_tOp qa qb o) (pt_cmpR ho pa pb hm)
theorem dt_eq (ha : DE X M W a ma) (hb : DE X M W b mb) (hu : X.A.units + 64 < cLine) (hK : M.K = X.K := by rfl) : DT X M W (.Compare a [.Eq] [b] pos) (fun ρ => (dOp2 eqD ma mb ρ).bind asB) := dt_tOp (op_eqD hu) ha hb (hK ▸ o2_eq) (nomark _)
theorem dt_ne (ha : DE X M W a ma) (hb : DE X M W b mb) (hu : X.A.units + 64 < cLine) (hK : M.K = X.K := by rfl) : DT X M W (.Compare a [.NotEq] [b] pos) (fun ρ => (dOp2 neD ma mb ρ).bind asB) := dt_tOp (op_neD hu) ha hb (hK ▸ o2_ne) (nomark _)
theorem dt_lt (ha : DE X M W a ma) (hb : DE X M W b mb) : DT X M W (.Compare a [.Lt] [b] pos) (fun ρ => (dOp2 ltD ma mb ρ).bind asB) := dt_tOp op_ltA ha hb o2_lt (nomark _)
theorem dt_le (ha : DE X M W a ma) (hb : DE X M W b mb) : DT X M W (.Compare a [.LtE] [b] pos) (fun ρ => (dOp2 leD ma mb ρ).bind asB) := dt_tOp op_le ha hb o2_le (nomark _)
theorem dt_gt (ha : DE X M W a ma) (hb : DE X M W b mb) : DT X M W (.Compare a [.Gt] [b] pos) (fun ρ => (dOp2 gtD ma mb ρ).bind asB) := dt_tOp op_gt ha hb o2_gt (nomark _)
theorem dt_ge (ha : DE X M W a ma) (hb : DE X M W b mb) : DT X M W (.Compare a [.GtE] [b] pos) (fun ρ => (dOp2 geD ma mb ρ).bind asB) := dt_tOp op_ge ha hb o2_ge (nomark _)
theorem dt_isN (ha : DE X M W a ma) (hb : DE X M W b mb) : DT X M W (.Compare a [.Is] [b] pos) (fun ρ => (dOp2 (isND false) ma mb ρ).bind asB) := dt_tOp op_isN ha hb o2_isN (nomark _)
theorem dt_notN (ha : DE X M W a ma) (hb : DE X M W b mb) : DT X M W (.Compare a [.IsNot] [b] pos) (fun ρ => (dOp2 (isND true) ma mb ρ).bind asB) := dt_tOp op_notN ha hb o2_notN (nomark _)
theorem dt_in (ha : DE X M W a ma) (hb : DE X M W b mb) (hu : X.A.units + 65 < cLine) (hm : behindInMarks .In b = false := by rfl) (hK : M.K = X.K := by rfl) : DT X M W (.Compare a [.In] [b] pos) (fun ρ => (dOp2 (inD false) ma mb ρ).bind asB) := dt_tOp (op_inA hu) ha hb (hK ▸ o2_in false) hm
theorem dt_notIn (ha : DE X M W a ma) (hb : DE X M W b mb) (hu : X.A.units + 65 < cLine) (hm : behindInMarks .NotIn b = false := by rfl) (hK : M.K = X.K := by rfl) : DT X M W (.Compare a [.NotIn] [b] pos) (fun ρ => (dOp2 (inD true) ma mb ρ).bind asB) := dt_tOp (op_notInA hu) ha hb (hK ▸ o2_in true) hm
theorem q_tChain {ta tb tc : TE} {r r' : R2} {g g' : D → D → Option RV} (o : Op2 M r g) (o' : Op2 M r' g') (qa : ∀ σ H F ρ Q, Sim M F H σ ρ → Post M W σ ρ F H (ma ρ) Q → ta σ H Q) (qb : ∀ σ H F ρ Q, Sim M F H σ ρ → Post M W σ ρ F H (mb ρ) Q → tb σ H Q)
    (qc : ∀ σ H F ρ Q, Sim M F H σ ρ → Post M W σ ρ F H (mc ρ) Q → tc σ H Q) : ∀ σ H F ρ Q, Sim M F H σ ρ → Post M W σ ρ F H (dChain g g' ma mb mc ρ) Q → tChain r r' ta tb tc σ H Q := fun σ H F ρ Q sm h => by
  refine qa σ H F ρ _ sm (Post.go h fun x ρ1 F1 H1 v _ st1 sm1 ok1 h1 => ?_)
  refine qb σ H1 F1 ρ1 _ sm1 (Post.go (Post.from st1 h1) fun y ρ2 F2 H2 u _ st2 sm2 ok2 h2 => ?_)
  split at h2
  · rename_i e
    obtain ⟨d, e', l1, l2, hg⟩ := bind_some2 e
    refine o F2 H2 v u d e' _ _ sm2.sub (ok1.view st2 sm2 l1) (ok2.view0 sm2 l2) hg fun F' H' z al nw => ?_
    cases nw
    exact ⟨false, rfl, by
      rw [if_neg Bool.false_ne_true]
      exact h2 F' H' _ (st2.trans (al.stp _ _)) (sm2.alc al) (Rep.bl false)⟩
  · rename_i e
    obtain ⟨d, e', l1, l2, hg⟩ := bind_some2 e
    refine o F2 H2 v u d e' _ _ sm2.sub (ok1.view st2 sm2 l1) (ok2.view0 sm2 l2) hg fun F' H' z al nw => ?_
    cases nw
    refine ⟨true, rfl, ?_⟩
    rw [if_pos rfl]
    refine qc σ H' F' ρ2 _ (sm2.alc al) (Post.go (Post.from ((st2.trans (al.stp _ _))) h2) fun zr ρ3 F3 H3 w _ st3 sm3 ok3 h3 => ?_)
    obtain ⟨rv, e3, k⟩ := Post.fin' h3 st3 sm3
    obtain ⟨d2, e2, l3, l4, hg2⟩ := bind_some2 e3
    exact o' F3 H3 u w d2 e2 rv Q sm3.sub (ok2.view ((al.stp _ _).trans st3) sm3 l3) (ok3.view0 sm3 l4) hg2 k
  · exact h2.elim
theorem dt_chain {op op' : CmpOp} {r r' : R2} {g g' : D → D → Option RV} (ho : OpR X (compareOp op) r) (ho' : OpR X (compareOp op') r') (o : Op2 M r g) (o' : Op2 M r' g') (ha : DE X M W a ma) (hb : DE X M W b mb) (hc : DE X M W c mc)
    (hm : lastMarks [op, op'] [b, c] = false := by with_unfolding_all rfl) : DT X M W (.Compare a [op, op'] [b, c] pos) (fun ρ => (dChain g g' ma mb mc ρ).bind asB) := by
  obtain ⟨ta, pa, qa⟩ := ha
  obtain ⟨tb, pb, qb⟩ := hb
  obtain ⟨tc, pc, qc⟩ := hc
  exact dt_mk (q_tChain o o' qa qb qc) (pt_chain ho ho' pa pb pc hm)
/-! and, or, not -/
def dAndT (mt mu : DM Bool) : DM Bool := fun ρ => (mt ρ).bind fun c ρ1 => if c = true then mu ρ1 else .ok false ρ1
def dOrT (mt mu : DM Bool) : DM Bool := fun ρ => (mt ρ).bind fun c ρ1 => if c = true then .ok true ρ1 else mu ρ1
def dNotT (mt : DM Bool) : DM Bool := fun ρ => (mt ρ).bind fun c ρ1 => .ok (!c) ρ1
variable {rest : List Expr}
theorem dw_and1 (ha : DT X M W a mt) : DW X M W (.BoolOp .And [a] pos) mt := by
  obtain ⟨ta, pa, qa⟩ := ha
  exact ⟨ta, pw_and1 pa, qa⟩
theorem dw_or1 (ha : DT X M W a mt) : DW X M W (.BoolOp .Or [a] pos) mt := by
  obtain ⟨ta, pa, qa⟩ := ha
  exact ⟨ta, pw_or1 pa, qa⟩
theorem dw_and (ha : DT X M W a mt) (hb : DW X M W (.BoolOp .And (b :: rest) pos) mu) : DW X M W (.BoolOp .And (a :: b :: rest) pos) (dAndT mt mu) := by
  obtain ⟨ta, pa, qa⟩ := ha
  obtain ⟨tb, pb, qb⟩ := hb
  refine ⟨_, pw_and pa pb, fun σ H F ρ Q sm h => ?_⟩
  refine qa σ H F ρ _ sm (PostT.step h fun c ρ1 F1 H1 _ st1 sm1 h1 => ?_)
  cases c with
  | true => exact qb σ H1 F1 ρ1 Q sm1 (PostT.from st1 h1)
  | false => exact h1 F1 H1 st1 sm1
theorem dw_or (ha : DT X M W a mt) (hb : DW X M W (.BoolOp .Or (b :: rest) pos) mu) : DW X M W (.BoolOp .Or (a :: b :: rest) pos) (dOrT mt mu) := by
  obtain ⟨ta, pa, qa⟩ := ha
  obtain ⟨tb, pb, qb⟩ := hb
  refine ⟨_, pw_or pa pb, fun σ H F ρ Q sm h => ?_⟩
  refine qa σ H F ρ _ sm (PostT.step h fun c ρ1 F1 H1 _ st1 sm1 h1 => ?_)
  cases c with
  | false => exact qb σ H1 F1 ρ1 Q sm1 (PostT.from st1 h1)
  | true => exact h1 F1 H1 st1 sm1
theorem dt_w (h : DW X M W e mt) : DT X M W e mt := by
  obtain ⟨t, p, q⟩ := h
  exact ⟨t, p.pt, q⟩
theorem dt_not (ha : DT X M W a mt) : DT X M W (.UnaryOp .Not a pos) (dNotT mt) := by
  obtain ⟨ta, pa, qa⟩ := ha
  refine ⟨_, pt_not pa, fun σ H F ρ Q sm h => ?_⟩
  exact qa σ H F ρ _ sm (PostT.step h fun c ρ1 F1 H1 _ st1 sm1 h1 => h1 F1 H1 st1 sm1)
/-! .. as values -/
def dAnd (ma mb : DM RV) : DM RV := fun ρ => ((ma ρ).bind asB).bind fun c ρ1 => if c = true then mb ρ1 else .ok (.im (.bl false)) ρ1
def dOr (ma mb : DM RV) : DM RV := fun ρ => ((ma ρ).bind asB).bind fun c ρ1 => if c = true then .ok (.im (.bl true)) ρ1 else mb ρ1
def dNot (ma : DM RV) : DM RV := fun ρ => ((ma ρ).bind asB).bind fun c ρ1 => .ok (.im (.bl (!c))) ρ1
theorem de_one {op} (h : DE X M W a m) : DE X M W (.BoolOp op [a] pos) m := by
  obtain ⟨t, p, q⟩ := h
  exact ⟨t, pe_one p, q⟩
theorem de_and (ha : DE X M W a ma) (hb : DE X M W (.BoolOp .And (b :: rest) pos) mb) : DE X M W (.BoolOp .And (a :: b :: rest) pos) (dAnd ma mb) := by
  obtain ⟨ta, pa, qa⟩ := ha
  obtain ⟨tb, pb, qb⟩ := hb
  refine ⟨_, pe_and pa pb, fun σ H F ρ Q sm h => ?_⟩
  refine qa σ H F ρ _ sm (PostT.go (Q := fun c H1 => if c = true then tb σ H1 Q else Q (.bl false) H1) (PostT.goE h fun c ρ1 F1 H1 _ st1 sm1 h1 => ?_))
  cases c with
  | true => exact qb σ H1 F1 ρ1 Q sm1 (Post.from st1 h1)
  | false => exact h1 F1 H1 _ st1 sm1 (Rep.bl false)
theorem de_or (ha : DE X M W a ma) (hb : DE X M W (.BoolOp .Or (b :: rest) pos) mb) : DE X M W (.BoolOp .Or (a :: b :: rest) pos) (dOr ma mb) := by
  obtain ⟨ta, pa, qa⟩ := ha
  obtain ⟨tb, pb, qb⟩ := hb
  refine ⟨_, pe_or pa pb, fun σ H F ρ Q sm h => ?_⟩
  refine qa σ H F ρ _ sm (PostT.go (Q := fun c H1 => if c = true then Q (.bl true) H1 else tb σ H1 Q) (PostT.goE h fun c ρ1 F1 H1 _ st1 sm1 h1 => ?_))
  cases c with
  | false => exact qb σ H1 F1 ρ1 Q sm1 (Post.from st1 h1)
  | true => exact h1 F1 H1 _ st1 sm1 (Rep.bl true)
theorem de_not (ha : DE X M W a ma) : DE X M W (.UnaryOp .Not a pos) (dNot ma) := by
  obtain ⟨ta, pa, qa⟩ := ha
  refine ⟨_, pe_not pa, fun σ H F ρ Q sm h => ?_⟩
  exact qa σ H F ρ _ sm (PostT.go (Q := fun c H1 => Q (.bl (!c)) H1) (PostT.goE h fun c ρ1 F1 H1 _ st1 sm1 h1 => h1 F1 H1 _ st1 sm1 (Rep.bl _)))
def dIf (mt : DM Bool) (ma mb : DM RV) : DM RV := fun ρ => (mt ρ).bind fun c ρ1 => if c = true then ma ρ1 else mb ρ1
theorem de_if (hc : DT X M W c mt) (ha : DE X M W a ma) (hb : DE X M W b mb) : DE X M W (.IfExp c a b pos) (dIf mt ma mb) := by
  obtain ⟨tc, pc, qc⟩ := hc
  obtain ⟨ta, pa, qa⟩ := ha
  obtain ⟨tb, pb, qb⟩ := hb
  refine ⟨_, pe_ifExp pc pa pb, fun σ H F ρ Q sm h => ?_⟩
  refine qc σ H F ρ _ sm (PostT.goE h fun c ρ1 F1 H1 _ st1 sm1 h1 => ?_)
  cases c with
  | true => exact qa σ H1 F1 ρ1 Q sm1 (Post.from st1 h1)
  | false => exact qb σ H1 F1 ρ1 Q sm1 (Post.from st1 h1)

/-! ### arguments -/
/-- a list that is shared from now on -/
def fz (r : RV) (ρ : SE) : R D := match r with
  | .im d => .ok d ρ
  | .ow oc => .ok oc.D ρ
  | .bo i => match ρ[i]? with
    | some (.ow false oc) => .ok oc.D (ρ.set i (.im oc.D))
    | _ => .bad
theorem own_set {i : Nat} {d : D} {ρ : SE} {x : Addr} (h : Own σ (ρ.set i (.im d)) x) : Own σ ρ x := by
  obtain ⟨j, ⟨io, ds, e⟩, e2⟩ := h
  refine ⟨j, ⟨io, ds, ?_⟩, e2⟩
  by_cases hj : j = i
  · subst hj
    rw [List.getElem?_set] at e
    simp only [if_true] at e
    split at e <;> cases e
  · rw [List.getElem?_set_ne (Ne.symm hj)] at e
    exact e
theorem OcRep.frz {a : Addr} {o : HO} {oc : OC} (n : F a = none) (r : OcRep M F o oc) : Rep M (upd F a o) (.ref a) oc.D := by
  cases r with
  | ls r => exact .lst upd_same (r.up (same_upd n))
  | ob r k => exact .obj upd_same (r.up (same_upd n)) k
theorem set_ne {i j : Nat} {x : SV} {ρ : SE} (h : j ≠ i) : (ρ.set i x)[j]? = ρ[j]? := by
  rw [List.getElem?_set_ne (Ne.symm h)]
theorem set_eq {i : Nat} {x y : SV} {ρ : SE} (h : (ρ.set i x)[i]? = some y) : y = x := by
  rw [List.getElem?_set] at h
  simp only [if_true] at h
  split at h
  · exact (Option.some.inj h).symm
  · cases h
theorem fz_ok {F0 : Hp} {ρ0 : SE} {r : RV} {v : V} {d : D} {ρ2 : SE} (st : Stp F0 H0 σ ρ0 F H σ ρ) (ok : RvOk M H0 F H σ ρ v r) (sm : Sim M F H σ ρ) (e : fz r ρ = .ok d ρ2) :
    ∃ F', Stp F0 H0 σ ρ0 F' H σ ρ2 ∧ Sim M F' H σ ρ2 ∧ Rep M F' v d ∧ Same F F' := by
  cases r with
  | im d' =>
    cases e
    exact ⟨F, st, sm, ok, Same.refl _⟩
  | ow oc =>
    cases e
    obtain ⟨a, o, e1, h1, h2, h3, h4, h5⟩ := ok
    subst e1
    have up := same_upd (o := o) h2
    refine ⟨upd F a o, ⟨st.same.trans up, st.keep, st.new, fun b o e => ?_, st.dom, st.io, st.noio⟩, ⟨⟨sm.sub.put h1 h3.nb, sm.ntb.upd h3.nt⟩, sm.tabs, sm.len, fun i d' e => ?_, fun i io ds' e => ?_, sm.inj⟩, h3.frz h2, up⟩
    · by_cases hb : b = a
      · subst hb
        exact .inr (.inr h5)
      · rw [upd_ne hb] at e
        exact st.newF b o e
    · obtain ⟨v, e1, r⟩ := sm.im i d' e
      exact ⟨v, e1, r.up up⟩
    · obtain ⟨b, ws, e1, e2, e3, e4⟩ := sm.ow i io ds' e
      refine ⟨b, ws, e1, e2, ?_, e4.up up⟩
      rw [upd_ne]
      · exact e3
      · intro z
        subst z
        exact h4 ⟨i, ⟨io, ds', e⟩, e1⟩
  | bo i =>
    have e : (match ρ[i]? with
      | some (.ow false oc) => R.ok oc.D (ρ.set i (.im oc.D))
      | _ => .bad) = .ok d ρ2 := e
    split at e
    · rename_i oc hi
      cases e
      obtain ⟨_, hv⟩ := ok
      obtain ⟨a, o, e1, h1, h2, h3⟩ := sm.ow i false oc hi
      rw [hv] at e1
      cases e1
      have up := same_upd (o := o) h2
      have hown : Own σ ρ a := ⟨i, ⟨false, oc, hi⟩, hv⟩
      refine ⟨upd F a o, ⟨st.same.trans up, st.keep, fun b z => st.new b (own_set z), fun b o e => ?_, st.dom, fun j es e => ?_, fun j es e => ?_⟩, ⟨⟨sm.sub.put h1 h3.nb, sm.ntb.upd h3.nt⟩, sm.tabs, by rw [List.length_set]; exact sm.len, fun j d' e => ?_, fun j io ds' e => ?_, fun j l b hj hl => ?_⟩, h3.frz h2, up⟩
      · by_cases hb : b = a
        · subst hb
          exact .inr (st.new b hown)
        · rw [upd_ne hb] at e
          exact st.newF b o e
      · obtain ⟨e1, es', e2⟩ := st.io j es e
        refine ⟨e1, es', ?_⟩
        rw [set_ne]
        · exact e2
        · intro z
          subst z
          rw [hi] at e2
          cases e2
      · by_cases hj : j = i
        · subst hj
          cases set_eq e
        · rw [set_ne hj] at e
          exact st.noio j es e
      · by_cases hj : j = i
        · subst hj
          cases set_eq e
          exact ⟨_, hv, h3.frz h2⟩
        · rw [set_ne hj] at e
          obtain ⟨v, e1, r⟩ := sm.im j d' e
          exact ⟨v, e1, r.up up⟩
      · by_cases hj : j = i
        · subst hj
          cases set_eq e
        · rw [set_ne hj] at e
          obtain ⟨b, ws, e1, e2, e3, e4⟩ := sm.ow j io ds' e
          refine ⟨b, ws, e1, e2, ?_, e4.up up⟩
          rw [upd_ne]
          · exact e3
          · intro z
            subst z
            exact hj (sm.inj j i _ ⟨io, ds', e⟩ ⟨false, oc, hi⟩ e1 hv)
      · have w : ∀ j, isOw (ρ.set i (.im oc.D)) j → isOw ρ j := fun j ⟨io, es, e⟩ => by
          by_cases hj : j = i
          · subst hj
            cases set_eq e
          · rw [set_ne hj] at e
            exact ⟨io, es, e⟩
        exact sm.inj j l b (w j hj) (w l hl)
    · cases e
def dFz (ma : DM RV) : DM D := fun ρ => (ma ρ).bind fz
/-- the arguments, each shared; or a slot's list that the callee may change -/
def aNil : DM (List AV) := fun ρ => .ok [] ρ
def aCons (ma : DM RV) (ms : DM (List AV)) : DM (List AV) := fun ρ => (dFz ma ρ).bind fun d ρ1 => (ms ρ1).bind fun as ρ2 => .ok (.d d :: as) ρ2
def aIo (i : Nat) (ms : DM (List AV)) : DM (List AV) := fun ρ => match ρ[i]? with
  | some (.ow _ _) => (ms ρ).bind fun as ρ2 => match ρ2[i]? with
    | some (.ow _ _) => .ok (.io i :: as) ρ2
    | _ => .bad
  | _ => .bad
theorem AvOk.up {v : V} {a : AV} (h : AvOk M F1 σ ρ1 v a) (s : Same F1 F) (k : ∀ i, a = .io i → isOw ρ i) : AvOk M F σ ρ v a := by
  cases a with
  | d d => exact Rep.up s h
  | io i => exact ⟨k i rfl, h.2⟩
variable {es : List Expr} {ms : DM (List AV)}
theorem da_nil : DA X M W [] aNil := ⟨_, pa_nil, fun σ H F ρ Q sm h => h F H [] (Stp.refl _ _ _ _) sm .nil⟩
/-- a shared part, told of the whole -/
theorem PostA.from {r : R (List AV)} {Q : List V → Hp → Prop} (st : Stp F H σ ρ F1 H1 σ ρ1) (h : PostA M W σ ρ F H r Q) : PostA M W σ ρ1 F1 H1 r Q := by
  cases r with
  | bad => exact h
  | ok a ρ2 => exact fun F2 H2 v st2 sm ok => h F2 H2 v (st.trans st2) sm ok
  | ex e ρ2 => exact fun F2 H2 cls d st2 sm ok => h F2 H2 cls d (st.trans st2) sm ok
/-- data, shared: Q is told of it -/
def PostD (M : Mx) (W : WX) (σ : L2.St) (ρ : SE) (F H : Hp) (r : R D) (Q : VK) : Prop := match r with
  | .bad => False
  | .ok d ρ' => ∀ F' H' v, Stp F H σ ρ F' H' σ ρ' → Sim M F' H' σ ρ' → Rep M F' v d → Q v H'
  | .ex e ρ' => ∀ F' H' cls d, Stp F H σ ρ F' H' σ ρ' → Sim M F' H' σ ρ' → ExcOk M F' H' cls d e → W cls d σ H'
theorem PostD.go {r : R RV} {Q : VK} (h : PostD M W σ ρ F H (r.bind fz) Q) : Post M W σ ρ F H r Q := by
  cases r with
  | bad => exact h
  | ok a ρ1 =>
    intro F1 H1 v st sm ok
    have h : PostD M W σ ρ F H (fz a ρ1) Q := h
    cases e : fz a ρ1 with
    | bad =>
      rw [e] at h
      exact h.elim
    | ok d ρ2 =>
      rw [e] at h
      obtain ⟨F', st', sm', r', _⟩ := fz_ok st ok sm e
      exact h F' H1 v st' sm' r'
    | ex x ρ2 =>
      cases a with
      | im d => cases e
      | ow ds => cases e
      | bo i =>
        have e : (match ρ1[i]? with
          | some (.ow false oc) => R.ok oc.D (ρ1.set i (.im oc.D))
          | _ => .bad) = .ex x ρ2 := e
        split at e <;> cases e
  | ex e ρ1 => exact h
theorem PostD.step {α : Type} {r : R D} {g : D → SE → R α} {P : R α → Prop} {Q' : VK} (hb : P .bad → False) (hx : ∀ e ρ', P (.ex e ρ') → ∀ F' H' cls d, Stp F H σ ρ F' H' σ ρ' → Sim M F' H' σ ρ' → ExcOk M F' H' cls d e → W cls d σ H') (h : P (r.bind g))
    (k : ∀ d ρ1 F1 H1 v, Stp F H σ ρ F1 H1 σ ρ1 → Sim M F1 H1 σ ρ1 → Rep M F1 v d → P (g d ρ1) → Q' v H1) : PostD M W σ ρ F H r Q' := by
  cases r with
  | bad => exact hb h
  | ok d ρ1 => exact fun F1 H1 v st sm ok => k d ρ1 F1 H1 v st sm ok h
  | ex e ρ1 => exact hx e ρ1 h
theorem q_tCons {te : TE} {t : TA} (qa : ∀ σ H F ρ Q, Sim M F H σ ρ → Post M W σ ρ F H (ma ρ) Q → te σ H Q) (qs : ∀ σ H F ρ Q, Sim M F H σ ρ → PostA M W σ ρ F H (ms ρ) Q → t σ H Q) : ∀ σ H F ρ Q, Sim M F H σ ρ → PostA M W σ ρ F H (aCons ma ms ρ) Q → tCons te t σ H Q := fun σ H F ρ Q sm h => by
  refine qa σ H F ρ _ sm (PostD.go (PostD.step (P := fun r => PostA M W σ ρ F H r Q) (fun z => z) (fun e ρ' z => z) h fun d ρ1 F1 H1 v st1 sm1 r1 h1 => ?_))
  refine qs σ H1 F1 ρ1 _ sm1 ?_
  have h2 := PostA.from st1 h1
  cases e : ms ρ1 with
  | bad =>
    rw [e] at h2
    exact h2
  | ok as ρ2 =>
    rw [e] at h2
    exact fun F2 H2 vs st2 sm2 ok2 => h2 F2 H2 _ st2 sm2 (.cons (show AvOk M F2 σ ρ2 v (.d d) from Rep.up st2.same r1) ok2)
  | ex x ρ2 =>
    rw [e] at h2
    exact h2
theorem da_cons (ha : DE X M W a ma) (hs : DA X M W es ms) (hst : starEach (a :: es) X.env = (false, eval a X.env) :: starEach es X.env := by rfl) : DA X M W (a :: es) (aCons ma ms) := by
  obtain ⟨te, pa, qa⟩ := ha
  obtain ⟨t, ps, qs⟩ := hs
  exact ⟨_, pa_cons pa ps hst, q_tCons qa qs⟩
theorem da_io (i : Nat) {x : Str} {p : Pos} (hs : DA X M W es ms) (hN : X.N[i]? = some x := by rfl) (hv : Vis X.env.scope x := by first | exact Or.inl rfl | exact Or.inr (Or.inl rfl) | exact Or.inr (Or.inr rfl)) (hd : (x == ("__debug__" : Str)) = false := by decide)
    (hcd : (x == ("__classdict__" : Str)) = false := by decide) (hst : starEach (.Name x p :: es) X.env = (false, eval (.Name x p) X.env) :: starEach es X.env := by rfl) : DA X M W (.Name x p :: es) (aIo i ms) := by
  obtain ⟨t, ps, qs⟩ := hs
  refine ⟨_, pa_cons (pe_var hN hv hd hcd) ps hst, fun σ H F ρ Q sm h => ?_⟩
  unfold aIo at h
  split at h
  · rename_i io ds e
    obtain ⟨b, vs, e1, e2, e3, e4⟩ := sm.ow i io ds e
    refine ⟨_, e1, qs σ H F ρ _ sm ?_⟩
    cases e5 : ms ρ with
    | bad =>
      rw [e5] at h
      exact h
    | ok as ρ2 =>
      rw [e5] at h
      have h : PostA M W σ ρ F H (match ρ2[i]? with
        | some (.ow _ _) => .ok (.io i :: as) ρ2
        | _ => .bad) Q := h
      split at h
      · rename_i io2 ds2 e6
        exact fun F2 H2 vs st2 sm2 ok2 => h F2 H2 _ st2 sm2 (.cons (show AvOk M F2 σ ρ2 _ (.io i) from ⟨⟨io2, ds2, e6⟩, e1⟩) ok2)
      · exact h.elim
    | ex x ρ2 =>
      rw [e5] at h
      exact h
  · exact h.elim
/-- all of them data -/
def avD : List AV → Option (List D)
  | [] => some []
  | .d d :: as => (avD as).map (d :: ·)
  | .io _ :: _ => none
theorem avD_ok : ∀ {as : List AV} {ds : List D} {vs : List V}, AvsOk M F σ ρ vs as → avD as = some ds → Reps M F vs ds
  | [], _, _, .nil, e => by
    cases e
    exact .nil
  | .d d :: as, ds, _, .cons h t, e => by
    unfold avD at e
    cases e2 : avD as with
    | none =>
      rw [e2] at e
      cases e
    | some ds' =>
      rw [e2] at e
      cases e
      exact .cons h (avD_ok t e2)
  | .io i :: as, _, _, .cons h t, e => by
    cases e
def dTup (ms : DM (List AV)) : DM RV := fun ρ => (ms ρ).bind fun as ρ1 => ofO ((avD as).bind fun ds => if ds.length ≤ 1000 then some (.im (.tup ds)) else none) ρ1
def dLst (ms : DM (List AV)) : DM RV := fun ρ => (ms ρ).bind fun as ρ1 => ofO ((avD as).bind fun ds => if ds.length ≤ 1000 then some (.ow (.ls ds)) else none) ρ1
theorem PostA.goE {r : R (List AV)} {Q : VK} {g : List AV → SE → R RV} (h : Post M W σ ρ F H (r.bind g) Q) {Q' : List V → Hp → Prop}
    (k : ∀ a ρ1 F1 H1 v, r = .ok a ρ1 → Stp F H σ ρ F1 H1 σ ρ1 → Sim M F1 H1 σ ρ1 → AvsOk M F1 σ ρ1 v a → Post M W σ ρ F H (g a ρ1) Q → Q' v H1) : PostA M W σ ρ F H r Q' := by
  cases r with
  | bad => exact h
  | ok a ρ1 => exact fun F1 H1 v st sm ok => k a ρ1 F1 H1 v rfl st sm ok h
  | ex e ρ1 => exact h
theorem de_tup {x1} (h : DA X M W es ms) : DE X M W (.Tuple es x1 pos) (dTup ms) := by
  obtain ⟨t, p, q⟩ := h
  refine ⟨_, pe_tup p, fun σ H F ρ Q sm h => ?_⟩
  refine q σ H F ρ _ sm (PostA.goE h fun as ρ1 F1 H1 vs _ st1 sm1 ok1 h1 => ?_)
  obtain ⟨rv, e, k⟩ := Post.fin' h1 st1 sm1
  obtain ⟨ds, e2, e3⟩ := bind_some1 e
  obtain ⟨hl, e4⟩ := some_ite e3
  subst e4
  have r := avD_ok ok1 e2
  exact ⟨by rw [r.length]; exact szle (by omega), fun p hp => new_tup sm1.sub r k hp⟩
theorem de_lst {pos : Pos} (h : DA X M W es ms) : DE X M W (.List es pos) (dLst ms) := by
  obtain ⟨t, p, q⟩ := h
  refine ⟨_, pe_lst p, fun σ H F ρ Q sm h => ?_⟩
  refine q σ H F ρ _ sm (PostA.goE h fun as ρ1 F1 H1 vs _ st1 sm1 ok1 h1 => ?_)
  obtain ⟨rv, e, k⟩ := Post.fin' h1 st1 sm1
  obtain ⟨ds, e2, e3⟩ := bind_some1 e
  obtain ⟨hl, e4⟩ := some_ite e3
  subst e4
  have r := avD_ok ok1 e2
  exact ⟨by rw [r.length]; exact szle (by omega), fun p hp => new_lst sm1.sub r k hp⟩
end
end DL

/- part -/
set_option Elab.async false
set_option linter.all false
set_option maxRecDepth 100000
set_option maxHeartbeats 4000000
namespace DL
open PySem PySem.Spec PyProof.Rows L2
section
variable {M : Mx} {W : WX} {X : Cx} {F H F' H' F1 H1 H0 : Hp} {σ : L2.St} {ρ ρ1 : SE}
variable {a b c e : Expr} {ma mb mc m : DM RV} {mt mu : DM Bool} {ms : DM (List AV)} {es : List Expr} {pos : Pos}
/-! ### items -/
theorem atI_rep {vs : List V} {ds : List D} {i : Int} {d : D} (r : Reps M F vs ds) (h : atI ds i = some d) : ∃ v, atI vs i = some v ∧ Rep M F v d := by
  unfold atI at h ⊢
  rw [r.length]
  cases e : ixN ds.length i with
  | none =>
    rw [e] at h
    cases h
  | some j =>
    rw [e] at h
    exact r.get h
def ixD : D → D → Option RV
  | .lst ds, .int i => (atI ds i).map RV.im
  | .tup ds, .int i => (atI ds i).map RV.im
  | .str z, .int i => if z.length ≤ 1000000 then (atI z.cps.toList i).map fun c => RV.im (.str ⟨#[c]⟩) else none
  | .scr ns, .int i => (atI ns i).map fun n => RV.im (.int n)
  | _, _ => none
theorem map_some {α β : Type} {o : Option α} {f : α → β} {r : β} (h : o.map f = some r) : ∃ x, o = some x ∧ f x = r := by
  cases o with
  | none => cases h
  | some x => exact ⟨x, rfl, Option.some.inj h⟩
theorem o2_ix : Op2 M (rIx M.K) ixD := by
  intro F H x y d e rv Q sub hx hy hg k
  unfold ixD at hg
  split at hg
  · obtain ⟨d, h1, h2⟩ := map_some hg
    subst h2
    obtain ⟨a, vs, e1, h3, r⟩ := hx
    obtain ⟨v, h4, h5⟩ := atI_rep r h1
    exact .inl ⟨a, vs, _, v, e1, vw_int hy, .inl (.inl h3), h4, k _ _ _ (Alc.refl sub) h5⟩
  · obtain ⟨d, h1, h2⟩ := map_some hg
    subst h2
    obtain ⟨a, vs, e1, h3, r⟩ := vw_tup hx
    obtain ⟨v, h4, h5⟩ := atI_rep r h1
    exact .inr (.inl ⟨a, vs, _, v, e1, vw_int hy, sub.sqT h3, h4, k _ _ _ (Alc.refl sub) h5⟩)
  · rename_i z i
    split at hg
    · rename_i hz
      obtain ⟨d, h1, h2⟩ := map_some hg
      subst h2
      exact .inr (.inr ⟨z, _, d, vw_str hx, vw_int hy, szle hz, h1, k _ _ _ (Alc.refl sub) RvNew.str⟩)
    · cases hg
  · rename_i ns i
    obtain ⟨n, h1, h2⟩ := map_some hg
    subst h2
    cases hx with
    | scr h3 =>
      refine .inl ⟨_, _, i, .int n, rfl, vw_int hy, sub.sqL h3, ?_, k _ _ _ (Alc.refl sub) RvNew.int⟩
      unfold atI at h1 ⊢
      rw [List.length_map]
      cases e : ixN ns.length i with
      | none =>
        rw [e] at h1
        cases h1
      | some j =>
        rw [e] at h1
        have h1 : ns[j]? = some n := h1
        show (ns.map V.int)[j]? = some (V.int n)
        rw [List.getElem?_map, h1]
        rfl
  · cases hg
theorem de_ix (ha : DE X M W a ma) (hb : DE X M W b mb) (hs : PlainIx b := by exact fun _ _ => rfl) (hK : M.K = X.K := by rfl) : DE X M W (.Subscript a b pos) (dOp2 ixD ma mb) := de_tOp ha hb o2_ix fun ta tb p q => by
  rw [hK]
  exact pe_ix ix_seq p q hs

/-! ### statements -/
def sExpr (m : DM RV) : DM Fl := fun ρ => (m ρ).bind fun _ ρ1 => .ok .nx ρ1
def sRet (m : DM RV) : DM Fl := fun ρ => (m ρ).bind fun r ρ1 => .ok (.rt r) ρ1
def sPass : DM Fl := fun ρ => .ok .nx ρ
def sBrk : DM Fl := fun ρ => .ok .bk ρ
def sCnt : DM Fl := fun ρ => .ok .ct ρ
def sSeq (s t : DM Fl) : DM Fl := fun ρ => (s ρ).bind fun f ρ1 => match f with
  | .nx => t ρ1
  | f => .ok f ρ1
def sIf (mt : DM Bool) (s t : DM Fl) : DM Fl := fun ρ => (mt ρ).bind fun c ρ1 => if c = true then s ρ1 else t ρ1
theorem Post.goS {r : R RV} {E : Ends} {g : RV → SE → R Fl} (h : PostS M W σ ρ F H (r.bind g) E) {Q' : VK}
    (k : ∀ a ρ1 F1 H1 v, r = .ok a ρ1 → Stp F H σ ρ F1 H1 σ ρ1 → Sim M F1 H1 σ ρ1 → RvOk M H F1 H1 σ ρ1 v a → PostS M W σ ρ F H (g a ρ1) E → Q' v H1) : Post M W σ ρ F H r Q' := by
  cases r with
  | bad => exact h
  | ok a ρ1 => exact fun F1 H1 v st sm ok => k a ρ1 F1 H1 v rfl st sm ok h
  | ex e ρ1 => exact fun F' H' cls d st sm ok => h F' H' σ cls d st sm ok
theorem PostT.goS {r : R Bool} {E : Ends} {g : Bool → SE → R Fl} (h : PostS M W σ ρ F H (r.bind g) E) {Q' : Bool → Hp → Prop}
    (k : ∀ a ρ1 F1 H1, r = .ok a ρ1 → Stp F H σ ρ F1 H1 σ ρ1 → Sim M F1 H1 σ ρ1 → PostS M W σ ρ F H (g a ρ1) E → Q' a H1) : PostT M W σ ρ F H r Q' := by
  cases r with
  | bad => exact h
  | ok a ρ1 => exact fun F1 H1 st sm => k a ρ1 F1 H1 rfl st sm h
  | ex e ρ1 => exact fun F' H' cls d st sm ok => h F' H' σ cls d st sm ok
theorem RvOk.from {v : V} {r : RV} {σ1 : L2.St} (h : RvOk M H1 F' H' σ1 ρ1 v r) (dom : ∀ b, Fre H1 b → Fre H b) : RvOk M H F' H' σ1 ρ1 v r := by
  cases r with
  | im d => exact h
  | ow ds =>
    obtain ⟨a, vs, e, h1, h2, h3, h4, h5⟩ := h
    exact ⟨a, vs, e, h1, h2, h3, h4, dom _ h5⟩
  | bo i => exact h
theorem PostS.from {r : R Fl} {E : Ends} {σ1 : L2.St} (st : Stp F H σ ρ F1 H1 σ1 ρ1) (h : PostS M W σ ρ F H r E) : PostS M W σ1 ρ1 F1 H1 r E := by
  cases r with
  | bad => exact h
  | ok f ρ2 =>
    cases f with
    | nx => exact fun F2 H2 σ2 st2 sm => h F2 H2 σ2 (st.trans st2) sm
    | bk => exact fun F2 H2 σ2 st2 sm => h F2 H2 σ2 (st.trans st2) sm
    | ct => exact fun F2 H2 σ2 st2 sm => h F2 H2 σ2 (st.trans st2) sm
    | rt r => exact fun F2 H2 σ2 v st2 sm ok => h F2 H2 σ2 v (st.trans st2) sm (ok.from st.dom)
  | ex e ρ2 => exact fun F2 H2 σ2 cls d st2 sm ok => h F2 H2 σ2 cls d (st.trans st2) sm ok
theorem ds_expr (he : DE X M W e m) (hs : swapsWith e none pos.line X.env = pure false := by rfl) : DS X M W (.Expr e pos) (sExpr m) := by
  obtain ⟨t, p, q⟩ := he
  refine ⟨_, ps_expr p hs, fun σ H F ρ E sm h => ?_⟩
  exact q σ H F ρ _ sm (Post.goS h fun r ρ1 F1 H1 v _ st1 sm1 ok1 h1 => h1 F1 H1 σ st1 sm1)
theorem ds_ret (he : DE X M W e m) : DS X M W (.Return (some e) pos) (sRet m) := by
  obtain ⟨t, p, q⟩ := he
  refine ⟨_, ps_ret p, fun σ H F ρ E sm h => ?_⟩
  exact q σ H F ρ _ sm (Post.goS h fun r ρ1 F1 H1 v _ st1 sm1 ok1 h1 => h1 F1 H1 σ v st1 sm1 ok1)
def sRetN : DM Fl := fun ρ => .ok (.rt (.im .non)) ρ
theorem ds_retN : DS X M W (.Return none pos) sRetN := ⟨_, ps_retN, fun σ H F ρ E sm h => h F H σ _ (Stp.refl _ _ _ _) sm Rep.non⟩
theorem ds_pass : DS X M W (.Pass pos) sPass := ⟨_, ps_pass, fun σ H F ρ E sm h => h F H σ (Stp.refl _ _ _ _) sm⟩
theorem ds_brk : DS X M W (.Break pos) sBrk := ⟨_, ps_break, fun σ H F ρ E sm h => h F H σ (Stp.refl _ _ _ _) sm⟩
theorem ds_cnt : DS X M W (.Continue pos) sCnt := ⟨_, ps_continue, fun σ H F ρ E sm h => h F H σ (Stp.refl _ _ _ _) sm⟩
theorem ds_doc {x j pos'} : DS X M W (.Expr (.Constant (.str x) j pos) pos') sPass := ⟨_, ps_doc, fun σ H F ρ E sm h => h F H σ (Stp.refl _ _ _ _) sm⟩
theorem dss_nil : DSs X M W [] sPass := ⟨_, pss_nil, fun σ H F ρ E sm h => h F H σ (Stp.refl _ _ _ _) sm⟩
variable {st : Stmt} {sts : List Stmt} {s t : DM Fl}
theorem dss_one (h : DS X M W st s) : DSs X M W [st] s := by
  obtain ⟨t, p, q⟩ := h
  exact ⟨t, pss_one p, q⟩
theorem dss_cons (h1 : DS X M W st s) (h2 : DSs X M W sts t) : DSs X M W (st :: sts) (sSeq s t) := by
  obtain ⟨t1, p1, q1⟩ := h1
  obtain ⟨t2, p2, q2⟩ := h2
  refine ⟨_, pss_cons p1 p2, fun σ H F ρ E sm h => ?_⟩
  refine q1 σ H F ρ _ sm ?_
  have h : PostS M W σ ρ F H ((s ρ).bind fun f ρ1 => match f with
    | .nx => t ρ1
    | f => .ok f ρ1) E := h
  cases e : s ρ with
  | bad =>
    rw [e] at h
    exact h
  | ok f ρ1 =>
    rw [e] at h
    cases f with
    | nx => exact fun F1 H1 σ1 st1 sm1 => q2 σ1 H1 F1 ρ1 E sm1 (PostS.from st1 h)
    | bk => exact h
    | ct => exact h
    | rt r => exact h
  | ex x ρ1 =>
    rw [e] at h
    exact h
theorem ds_if (hc : DT X M W c mt) (ha : DSs X M W es' s) (hb : DSs X M W es'' t) : DS X M W (.If c es' es'' pos) (sIf mt s t) := by
  obtain ⟨tc, pc, qc⟩ := hc
  obtain ⟨t1, p1, q1⟩ := ha
  obtain ⟨t2, p2, q2⟩ := hb
  refine ⟨_, ps_if pc p1 p2, fun σ H F ρ E sm h => ?_⟩
  refine qc σ H F ρ _ sm (PostT.goS h fun c ρ1 F1 H1 _ st1 sm1 h1 => ?_)
  cases c with
  | true => exact q1 σ H1 F1 ρ1 E sm1 (PostS.from st1 h1)
  | false => exact q2 σ H1 F1 ρ1 E sm1 (PostS.from st1 h1)

/-! ### storing -/
/-- a value goes into a slot: data, or a new list that the slot has for its own -/
def stow (ρ : SE) (i : Nat) (sv : SV) : R Unit := match ρ[i]? with
  | some (.ow true _) => .bad
  | some _ => .ok () (ρ.set i sv)
  | none => .bad
def asSV (r : RV) (ρ : SE) : R SV := match r with
  | .im d => .ok (.im d) ρ
  | .ow oc => .ok (.ow false oc) ρ
  | .bo i => match ρ[i]? with
    | some (.ow false oc) => .ok (.im oc.D) (ρ.set i (.im oc.D))
    | _ => .bad
/-- what stands for a slot's new content -/
def SvOk (M : Mx) (H0 F H : Hp) (σ : L2.St) (ρ : SE) (v : V) : SV → Prop
  | .no => False
  | .im d => Rep M F v d
  | .ow false oc => ∃ a o, v = .ref a ∧ H a = some o ∧ F a = none ∧ OcRep M F o oc ∧ ¬ Own σ ρ a ∧ Fre H0 a
  | .ow true _ => False
theorem own_set' {i : Nat} {v : V} {sv : SV} {x : Addr} (h : Own (σ.set i (some v)) (ρ.set i sv) x) : Own σ ρ x ∨ (v = .ref x ∧ ∃ io ds, sv = .ow io ds) := by
  obtain ⟨j, ⟨io, ds, e⟩, e2⟩ := h
  by_cases hj : j = i
  · subst hj
    refine .inr ⟨?_, io, ds, (set_eq e).symm⟩
    rw [List.getElem?_set] at e2
    simp only [if_true] at e2
    split at e2
    · cases e2
      rfl
    · cases e2
  · rw [set_ne hj] at e
    rw [List.getElem?_set_ne (Ne.symm hj)] at e2
    exact .inl ⟨j, ⟨io, ds, e⟩, e2⟩
theorem stow_ok {F0 : Hp} {σ0 : L2.St} {ρ0 : SE} {i : Nat} {v : V} {sv : SV} {ρ2 : SE} (st : Stp F0 H0 σ0 ρ0 F H σ ρ) (ok : SvOk M H0 F H σ ρ v sv) (sm : Sim M F H σ ρ) (e : stow ρ i sv = .ok () ρ2) :
    Stp F0 H0 σ0 ρ0 F H (σ.set i (some v)) ρ2 ∧ Sim M F H (σ.set i (some v)) ρ2 := by
  have hi : ρ2 = ρ.set i sv ∧ i < ρ.length ∧ ∀ ds, ρ[i]? ≠ some (.ow true ds) := by
    unfold stow at e
    split at e
    · cases e
    · rename_i x hn e1
      cases e
      refine ⟨rfl, ?_, fun ds z => ?_⟩
      · exact (List.getElem?_eq_some_iff.mp e1).1
      · rw [e1] at z
        cases z
        exact hn ds rfl
    · cases e
  obtain ⟨rfl, hlt, hnio⟩ := hi
  have hio : ∀ ds, sv ≠ .ow true ds := fun ds z => by
    subst z
    exact ok
  have hlt' : i < σ.length := by
    rw [sm.len]
    exact hlt
  refine ⟨⟨st.same, st.keep, fun b z => ?_, st.newF, st.dom, fun j ds z => ?_, fun j ds z => ?_⟩, ⟨sm.sub0, sm.tabs, by rw [List.length_set, List.length_set]; exact sm.len, fun j d z => ?_, fun j io ds z => ?_, fun j l b hj hl z1 z2 => ?_⟩⟩
  · rcases own_set' z with z | ⟨z1, io, ds, z2⟩
    · exact st.new b z
    · subst z2 z1
      cases io with
      | true => exact (hio ds rfl).elim
      | false =>
        obtain ⟨a, vs, e1, h1, h2, h3, h4, h5⟩ := ok
        cases e1
        exact .inr h5
  · obtain ⟨e1, ds', e2⟩ := st.io j ds z
    have hj : j ≠ i := fun q => by
      subst q
      exact hnio ds' e2
    refine ⟨?_, ds', by rw [set_ne hj]; exact e2⟩
    rw [List.getElem?_set_ne (Ne.symm hj)]
    exact e1
  · by_cases hj : j = i
    · subst hj
      exact (hio ds (set_eq z).symm).elim
    · rw [set_ne hj] at z
      exact st.noio j ds z
  · by_cases hj : j = i
    · subst hj
      have z := (set_eq z).symm
      subst z
      exact ⟨v, by rw [List.getElem?_set_self hlt'], ok⟩
    · rw [set_ne hj] at z
      obtain ⟨u, e1, r⟩ := sm.im j d z
      exact ⟨u, by rw [List.getElem?_set_ne (Ne.symm hj)]; exact e1, r⟩
  · by_cases hj : j = i
    · subst hj
      have z := (set_eq z).symm
      subst z
      cases io with
      | true => exact ok.elim
      | false =>
        obtain ⟨a, vs, e1, h1, h2, h3, h4, h5⟩ := ok
        subst e1
        exact ⟨a, vs, by rw [List.getElem?_set_self hlt'], h1, h2, h3⟩
    · rw [set_ne hj] at z
      obtain ⟨b, ws, e1, e2, e3, e4⟩ := sm.ow j io ds z
      exact ⟨b, ws, by rw [List.getElem?_set_ne (Ne.symm hj)]; exact e1, e2, e3, e4⟩
  · -- two slots of one list
    have one : ∀ l : Nat, isOw (ρ.set i sv) l → (σ.set i (some v))[l]? = some (some (V.ref b)) → l = i → ¬ Own σ ρ b := fun l hl zl el => by
      subst el
      obtain ⟨io, ds, q⟩ := hl
      have q := (set_eq q).symm
      subst q
      rw [List.getElem?_set_self hlt'] at zl
      cases zl
      cases io with
      | true => exact ok.elim
      | false =>
        obtain ⟨a, vs, e1, h1, h2, h3, h4, h5⟩ := ok
        cases e1
        exact h4
    have old : ∀ l : Nat, isOw (ρ.set i sv) l → (σ.set i (some v))[l]? = some (some (V.ref b)) → l ≠ i → isOw ρ l ∧ σ[l]? = some (some (V.ref b)) := fun l ⟨io, ds, q⟩ zl el => by
      rw [set_ne el] at q
      rw [List.getElem?_set_ne (Ne.symm el)] at zl
      exact ⟨⟨io, ds, q⟩, zl⟩
    by_cases ej : j = i
    · by_cases el : l = i
      · rw [ej, el]
      · obtain ⟨o1, o2⟩ := old l hl z2 el
        exact (one j hj z1 ej ⟨l, o1, o2⟩).elim
    · by_cases el : l = i
      · obtain ⟨o1, o2⟩ := old j hj z1 ej
        exact (one l hl z2 el ⟨j, o1, o2⟩).elim
      · obtain ⟨o1, o2⟩ := old l hl z2 el
        obtain ⟨o3, o4⟩ := old j hj z1 ej
        exact sm.inj j l b o3 o1 o4 o2
theorem asSV_ok {F0 : Hp} {ρ0 : SE} {r : RV} {v : V} {sv : SV} {ρ2 : SE} (st : Stp F0 H0 σ ρ0 F H σ ρ) (ok : RvOk M H0 F H σ ρ v r) (sm : Sim M F H σ ρ) (e : asSV r ρ = .ok sv ρ2) :
    ∃ F', Stp F0 H0 σ ρ0 F' H σ ρ2 ∧ Sim M F' H σ ρ2 ∧ SvOk M H0 F' H σ ρ2 v sv := by
  cases r with
  | im d =>
    cases e
    exact ⟨F, st, sm, ok⟩
  | ow ds =>
    cases e
    exact ⟨F, st, sm, ok⟩
  | bo i =>
    have e : (match ρ[i]? with
      | some (.ow false oc) => R.ok (SV.im oc.D) (ρ.set i (.im oc.D))
      | _ => .bad) = .ok sv ρ2 := e
    split at e
    · rename_i ds hi
      cases e
      have e2 : fz (.bo i) ρ = .ok ds.D (ρ.set i (.im ds.D)) := by
        show (match ρ[i]? with
          | some (.ow false oc) => R.ok oc.D (ρ.set i (.im oc.D))
          | _ => .bad) = _
        rw [hi]
      obtain ⟨F', a, b, c, _⟩ := fz_ok st ok sm e2
      exact ⟨F', a, b, c⟩
    · cases e
def sSet (i : Nat) (m : DM RV) : DM Fl := fun ρ => ((m ρ).bind asSV).bind fun sv ρ1 => (stow ρ1 i sv).bind fun _ ρ2 => .ok .nx ρ2
theorem asSV_ex {r : RV} {x : Exc} {ρ2 : SE} (e : asSV r ρ = .ex x ρ2) : False := by
  cases r with
  | im d => cases e
  | ow ds => cases e
  | bo i =>
    have e : (match ρ[i]? with
      | some (.ow false oc) => R.ok (SV.im oc.D) (ρ.set i (.im oc.D))
      | _ => .bad) = .ex x ρ2 := e
    split at e <;> cases e
theorem stow_ex {i : Nat} {sv : SV} {x : Exc} {ρ2 : SE} (e : stow ρ i sv = .ex x ρ2) : False := by
  unfold stow at e
  split at e <;> cases e
theorem q_set {te : TE} {i : Nat} (q : ∀ σ H F ρ Q, Sim M F H σ ρ → Post M W σ ρ F H (m ρ) Q → te σ H Q) : ∀ σ H F ρ E, Sim M F H σ ρ → PostS M W σ ρ F H (sSet i m ρ) E → tAsg te (gName i) E σ H := fun σ H F ρ E sm h => by
  refine q σ H F ρ _ sm ?_
  cases e : m ρ with
  | bad =>
    unfold sSet at h
    rw [e] at h
    exact h
  | ex x ρ1 =>
    unfold sSet at h
    rw [e] at h
    exact fun F' H' cls d st sm ok => h F' H' σ cls d st sm ok
  | ok r ρ1 =>
    intro F1 H1 v st1 sm1 ok1
    unfold sSet at h
    rw [e] at h
    have h : PostS M W σ ρ F H ((asSV r ρ1).bind fun sv ρ1 => (stow ρ1 i sv).bind fun _ ρ2 => .ok .nx ρ2) E := h
    cases e2 : asSV r ρ1 with
    | bad =>
      rw [e2] at h
      exact h.elim
    | ex x ρ2 => exact (asSV_ex e2).elim
    | ok sv ρ2 =>
      rw [e2] at h
      obtain ⟨F2, st2, sm2, ok2⟩ := asSV_ok st1 ok1 sm1 e2
      have h : PostS M W σ ρ F H ((stow ρ2 i sv).bind fun _ ρ2 => .ok .nx ρ2) E := h
      cases e3 : stow ρ2 i sv with
      | bad =>
        rw [e3] at h
        exact h.elim
      | ex x ρ2 => exact (stow_ex e3).elim
      | ok u ρ3 =>
        rw [e3] at h
        obtain ⟨st3, sm3⟩ := stow_ok st2 ok2 sm2 e3
        exact h F2 H1 _ st3 sm3
theorem ds_set {i : Nat} {x : Str} {pos' : Pos} (he : DE X M W e m) (hN : X.N.Nodup) (hi : X.N[i]? = some x := by rfl) (hx : Loc X.env.scope x := by first | exact Or.inl rfl | exact Or.inr rfl) (hs : swapsWith e (some (.Name x pos')) pos.line X.env = pure false := by rfl)
    (hf : X.fn x = true ∨ X.env.scope.names.lookup x = some .local := by first | exact .inl rfl | exact .inr rfl) : DS X M W (.Assign [.Name x pos'] e pos) (sSet i m) := by
  obtain ⟨t, p, q⟩ := he
  exact ⟨_, ps_set hN hi hx p hs hf, q_set q⟩
end
end DL

/- part -/
set_option Elab.async false
set_option linter.all false
set_option maxRecDepth 100000
set_option maxHeartbeats 4000000
namespace DL
open PySem PySem.Spec PyProof.Rows L2
section
variable {M : Mx} {W : WX} {X : Cx} {F H F' H' F1 H1 H0 : Hp} {σ : L2.St} {ρ ρ1 : SE}
variable {a b c e : Expr} {ma mb mc m : DM RV} {mt mu : DM Bool} {ms : DM (List AV)} {es : List Expr} {pos : Pos} {s t : DM Fl}
/-! ### a slot's list changed -/
theorem tabs_updG {T : List (Addr × Str)} {x : Addr} {o o' : HO} {oc : OC} (h : H x = some o) (r : OcRep M F o oc) (t : LamX.Tabs T H) : LamX.Tabs T (upd H x o') := fun p hp => by
  obtain ⟨ps, h1, h2, h3⟩ := t p hp
  refine ⟨ps, ?_, h2, fun pos cv hc => ?_⟩
  · rw [upd_ne]
    · exact h1
    · intro z
      rw [z, h] at h1
      cases h1
      cases r
  · obtain ⟨c, e1, e2⟩ := h3 pos cv hc
    refine ⟨c, e1, ?_⟩
    rw [upd_ne]
    · exact e2
    · intro z
      rw [z, h] at e2
      cases e2
      cases r
theorem upd_okG {F0 : Hp} {σ0 : L2.St} {ρ0 : SE} {i : Nat} {io : Bool} {ds es : OC} {x : Addr} {o' : HO} (st : Stp F0 H0 σ0 ρ0 F H σ ρ) (sm : Sim M F H σ ρ) (hi : ρ[i]? = some (.ow io ds)) (hx : σ[i]? = some (some (V.ref x))) (r : OcRep M F o' es) :
    Stp F0 H0 σ0 ρ0 F (upd H x o') σ (ρ.set i (.ow io es)) ∧ Sim M F (upd H x o') σ (ρ.set i (.ow io es)) := by
  obtain ⟨a, vs, e1, h1, h2, h3⟩ := sm.ow i io ds hi
  rw [hx] at e1
  cases e1
  have hown : Own σ ρ x := ⟨i, ⟨io, ds, hi⟩, hx⟩
  have lt : i < ρ.length := (List.getElem?_eq_some_iff.mp hi).1
  have back : ∀ j, isOw (ρ.set i (.ow io es)) j → isOw ρ j := fun j ⟨q, d, e⟩ => by
    by_cases hj : j = i
    · subst hj
      exact ⟨io, ds, hi⟩
    · rw [set_ne hj] at e
      exact ⟨q, d, e⟩
  have owb : ∀ y, Own σ (ρ.set i (.ow io es)) y → Own σ ρ y := fun y ⟨j, o, e⟩ => ⟨j, back j o, e⟩
  refine ⟨⟨st.same, fun b o hb n nt => ?_, fun b z => st.new b (owb b z), st.newF, fun b z => ?_, fun j d z => ?_, fun j d z => ?_⟩, ⟨⟨⟨fun b o hb nb => ?_, fun b n vs hb => ?_⟩, sm.ntb⟩, tabs_updG h1 h3 sm.tabs, by rw [List.length_set]; exact sm.len, fun j d z => ?_, fun j q d z => ?_, fun j l y o1 o2 => sm.inj j l y (back j o1) (back l o2)⟩⟩
  · rw [upd_ne]
    · exact st.keep b o hb n nt
    · intro z
      subst z
      rcases st.new b hown with z | z
      · exact n z
      · exact z.no hb nt
  · exact st.dom b (z.back r.nt)
  · obtain ⟨e1, d', e2⟩ := st.io j d z
    refine ⟨e1, ?_⟩
    by_cases hj : j = i
    · subst hj
      rw [hi] at e2
      cases e2
      exact ⟨es, by rw [List.getElem?_set_self lt]⟩
    · exact ⟨d', by rw [set_ne hj]; exact e2⟩
  · by_cases hj : j = i
    · subst hj
      have e := (set_eq z).symm
      cases e
      exact st.noio j ds hi
    · rw [set_ne hj] at z
      exact st.noio j d z
  · rw [upd_ne]
    · exact sm.sub.go b o hb nb
    · intro z
      subst z
      rw [h2] at hb
      cases hb
  · rw [upd_ne]
    · exact sm.sub.bk b n vs hb
    · intro z
      subst z
      rw [h2] at hb
      cases hb
  · by_cases hj : j = i
    · subst hj
      cases set_eq z
    · rw [set_ne hj] at z
      exact sm.im j d z
  · by_cases hj : j = i
    · subst hj
      have e := (set_eq z).symm
      cases e
      exact ⟨x, o', hx, upd_same, h2, r⟩
    · rw [set_ne hj] at z
      obtain ⟨b, us, e1, e2, e3, e4⟩ := sm.ow j q d z
      refine ⟨b, us, e1, ?_, e3, e4⟩
      rw [upd_ne]
      · exact e2
      · intro q2
        subst q2
        exact hj (sm.inj j i _ ⟨q, d, z⟩ ⟨io, ds, hi⟩ e1 hx)
theorem upd_ok {F0 : Hp} {σ0 : L2.St} {ρ0 : SE} {i : Nat} {io : Bool} {ds es : List D} {x : Addr} {ws : List V} (st : Stp F0 H0 σ0 ρ0 F H σ ρ) (sm : Sim M F H σ ρ) (hi : ρ[i]? = some (.ow io (.ls ds))) (hx : σ[i]? = some (some (V.ref x))) (r : Reps M F ws es) :
    Stp F0 H0 σ0 ρ0 F (upd H x (.lst ws)) σ (ρ.set i (.ow io (.ls es))) ∧ Sim M F (upd H x (.lst ws)) σ (ρ.set i (.ow io (.ls es))) := upd_okG st sm hi hx (.ls r)
/-- a method of a list in a slot: its data, what it gives, the list behind it -/
def lmD (i : Nat) (g : List D → List D → Option (D × List D)) (ms : DM (List AV)) : DM RV := fun ρ => match ρ[i]? with
  | some (.ow _ (.ls _)) => (ms ρ).bind fun as ρ1 => match ρ1[i]?, avD as with
    | some (.ow io (.ls ds)), some xs => match g ds xs with
      | some (d, es) => .ok (.im d) (ρ1.set i (.ow io (.ls es)))
      | none => .bad
    | _, _ => .bad
  | _ => .bad
def LmOk (M : Mx) (r : V → List V → Hp → VK → Prop) (g : List D → List D → Option (D × List D)) : Prop := ∀ (F H : Hp) (x : Addr) (vs us : List V) (ds xs : List D) (d : D) (es : List D) (Q : VK), H x = some (.lst vs) → Reps M F vs ds → Reps M F us xs → g ds xs = some (d, es) →
  (∀ v ws, Rep M F v d → Reps M F ws es → Q v (upd H x (.lst ws))) → r (.ref x) us H Q
theorem q_lm {t : TA} {r : V → List V → Hp → VK → Prop} {g : List D → List D → Option (D × List D)} {i : Nat} (qs : ∀ σ H F ρ Q, Sim M F H σ ρ → PostA M W σ ρ F H (ms ρ) Q → t σ H Q) (o : LmOk M r g) : ∀ σ H F ρ Q, Sim M F H σ ρ → Post M W σ ρ F H (lmD i g ms ρ) Q → tBM M.K "list" r (tVar i) t σ H Q := fun σ H F ρ Q sm h => by
  unfold lmD at h
  split at h
  · rename_i io0 ds0 e0
    obtain ⟨x, vs0, e1, h1, _⟩ := sm.owl i io0 ds0 e0
    refine ⟨.ref x, e1, .inl ⟨rfl, vs0, .inl (.inl h1)⟩, qs σ H F ρ _ sm (PostA.goE h fun as ρ1 F1 H1 us _ st1 sm1 ok1 h2 => ?_)⟩
    split at h2
    · rename_i io ds xs e3 e4
      split at h2
      · rename_i d es e5
        obtain ⟨y, vs, e6, h3, h4, h5⟩ := sm1.owl i io ds e3
        rw [e1] at e6
        cases e6
        refine o F1 H1 x vs us ds xs d es Q h3 h5 (avD_ok ok1 e4) e5 fun v ws rv rw' => ?_
        obtain ⟨st2, sm2⟩ := upd_ok st1 sm1 e3 e1 rw'
        exact h2 F1 _ v st2 sm2 rv
      · exact h2.elim
    · exact h2.elim
  · exact h.elim
def gAppend (ds xs : List D) : Option (D × List D) := match xs with
  | [d] => if ds.length < 1000000 then some (.non, ds ++ [d]) else none
  | _ => none
theorem lm_append : LmOk M rAppend gAppend := by
  intro F H x vs us ds xs d es Q hx r1 r2 hg k
  unfold gAppend at hg
  split at hg
  · obtain ⟨hc, e⟩ := some_ite hg
    cases e
    cases r2 with
    | cons r3 r4 =>
      cases r4
      exact ⟨x, vs, _, rfl, rfl, hx, by rw [r1.length]; exact szlt hc, k _ _ .non (r1.append (.cons r3 .nil))⟩
  · cases hg
def gPop (ds xs : List D) : Option (D × List D) := match xs with
  | [] => (ds[ds.length - 1]?).map fun d => (d, ds.dropLast)
  | _ => none
theorem lm_pop : LmOk M rPop gPop := by
  intro F H x vs us ds xs d es Q hx r1 r2 hg k
  unfold gPop at hg
  split at hg
  · obtain ⟨y, e1, e2⟩ := map_some hg
    cases e2
    cases r2
    obtain ⟨v, h1, h2⟩ := r1.get e1
    exact ⟨x, vs, v, rfl, rfl, hx, by rw [r1.length]; exact h1, k _ _ h2 r1.dropLast⟩
  · cases hg
def gPopAt (ds xs : List D) : Option (D × List D) := match xs with
  | [.int i] => match ixN ds.length i with
    | some j => if ds.length ≤ 1000000 then (ds[j]?).map fun d => (d, ds.eraseIdx j) else none
    | none => none
  | _ => none
theorem lm_popAt : LmOk M rPopAt gPopAt := by
  intro F H x vs us ds xs d es Q hx r1 r2 hg k
  unfold gPopAt at hg
  split at hg
  · rename_i i
    split at hg
    · rename_i j e0
      split at hg
      · rename_i hz
        obtain ⟨y, e1, e2⟩ := map_some hg
        cases e2
        cases r2 with
        | cons r3 r4 =>
          cases r4
          cases r3
          obtain ⟨v, h1, h2⟩ := r1.get e1
          obtain ⟨q1, q2, q3, q4⟩ := ixN_seq e0
          exact ⟨x, vs, i, j, v, rfl, rfl, hx, by omega, by omega, by rw [r1.length]; exact q1, h1, k _ _ h2 (r1.eraseIdx j)⟩
      · cases hg
    · cases hg
  · cases hg
def gReverse (ds xs : List D) : Option (D × List D) := match xs with
  | [] => some (.non, ds.reverse)
  | _ => none
theorem lm_reverse : LmOk M rReverse gReverse := by
  intro F H x vs us ds xs d es Q hx r1 r2 hg k
  unfold gReverse at hg
  split at hg
  · cases hg
    cases r2
    exact ⟨x, vs, rfl, rfl, hx, k _ _ .non r1.reverse⟩
  · cases hg
def gClear (ds xs : List D) : Option (D × List D) := match xs with
  | [] => some (.non, [])
  | _ => none
theorem lm_clear : LmOk M rClear gClear := by
  intro F H x vs us ds xs d es Q hx r1 r2 hg k
  unfold gClear at hg
  split at hg
  · cases hg
    cases r2
    exact ⟨x, vs, rfl, rfl, hx, k _ _ .non .nil⟩
  · cases hg
def gExtend (ds xs : List D) : Option (D × List D) := match xs with
  | [.lst es] => if ds.length + es.length ≤ 1000000 then some (.non, ds ++ es) else none
  | _ => none
theorem lm_extend' : ∀ (F H : Hp) (x : Addr) (vs us : List V) (ds xs : List D) (d : D) (es : List D) (Q : VK), SubF F H → H x = some (.lst vs) → Reps M F vs ds → Reps M F us xs → gExtend ds xs = some (d, es) →
  (∀ v ws, Rep M F v d → Reps M F ws es → Q v (upd H x (.lst ws))) → rExtend (.ref x) us H Q := by
  intro F H x vs us ds xs d es Q sub hx r1 r2 hg k
  unfold gExtend at hg
  split at hg
  · obtain ⟨hc, e⟩ := some_ite hg
    cases e
    cases r2 with
    | cons r3 r4 =>
      cases r4
      cases r3 with
      | lst h1 h2 => exact ⟨x, _, vs, _, rfl, rfl, hx, sub.go _ _ h1, by rw [r1.length, h2.length]; exact szle hc, k _ _ .non (r1.append h2)⟩
  · cases hg

/-! ### targets -/
def NoEx {α β : Type} (g : α → SE → R β) : Prop := ∀ d ρ x ρ', g d ρ ≠ .ex x ρ'
/-- but for the slots sl the same -/
def But (sl : List Nat) (σ σ' : L2.St) : Prop := σ'.length = σ.length ∧ ∀ j, j ∉ sl → σ'[j]? = σ[j]?
def DG (X : Cx) (M : Mx) (tg : Expr) (sl : List Nat) (gm : D → SE → R Unit) : Prop := NoEx gm ∧ ∃ t, PG X tg t ∧ ∀ v d σ H F ρ (Q : L2.St → Hp → Prop), Sim M F H σ ρ → Rep M F v d →
  (∃ ρ', gm d ρ = .ok () ρ' ∧ ∀ σ', But sl σ σ' → (∀ F0 H0 σ0 ρ0, Stp F0 H0 σ0 ρ0 F H σ ρ → Stp F0 H0 σ0 ρ0 F H σ' ρ') → Sim M F H σ' ρ' → Q σ' H) → t v σ H Q
def DGs (X : Cx) (M : Mx) (ts : List Expr) (sl : List Nat) (gm : List D → SE → R Unit) : Prop := NoEx gm ∧ ∃ t, PGs X ts t ∧ ∀ vs ds σ H F ρ (Q : L2.St → Hp → Prop), Sim M F H σ ρ → Reps M F vs ds →
  (∃ ρ', gm ds ρ = .ok () ρ' ∧ ∀ σ', But sl σ σ' → (∀ F0 H0 σ0 ρ0, Stp F0 H0 σ0 ρ0 F H σ ρ → Stp F0 H0 σ0 ρ0 F H σ' ρ') → Sim M F H σ' ρ' → Q σ' H) → t vs σ H Q
def tgName (i : Nat) (d : D) (ρ : SE) : R Unit := stow ρ i (.im d)
def tgNil (ds : List D) (ρ : SE) : R Unit := match ds with
  | [] => .ok () ρ
  | _ => .bad
def tgCons (g : D → SE → R Unit) (gs : List D → SE → R Unit) (ds : List D) (ρ : SE) : R Unit := match ds with
  | d :: r => (g d ρ).bind fun _ ρ1 => gs r ρ1
  | [] => .bad
def tgTup (n : Nat) (gs : List D → SE → R Unit) (d : D) (ρ : SE) : R Unit := match d with
  | .tup ds => if ds.length = n then gs ds ρ else .bad
  | _ => .bad
theorem tgName_ex {i : Nat} : NoEx (tgName i) := fun d ρ x ρ' e => stow_ex e
theorem dg_name (i : Nat) {x : Str} (hN : X.N.Nodup) (hi : X.N[i]? = some x := by rfl) (hx : Loc X.env.scope x := by first | exact Or.inl rfl | exact Or.inr rfl) (hf : X.fn x = true ∨ X.env.scope.names.lookup x = some .local := by first | exact .inl rfl | exact .inr rfl) : DG X M (.Name x pos) [i] (tgName i) := by
  refine ⟨tgName_ex, _, pg_name hN hi hx hf, fun v d σ H F ρ Q sm r ⟨ρ', e, k⟩ => ?_⟩
  have ok : SvOk M H F H σ ρ v (.im d) := r
  exact k _ ⟨List.length_set .., fun j hj => by rw [List.getElem?_set_ne (fun z => hj (by rw [z]; exact List.mem_cons_self))]⟩ (fun F0 H0 σ0 ρ0 st => (stow_ok (sv := .im d) st r sm e).1) (stow_ok (Stp.refl _ _ _ _) ok sm e).2
theorem dgs_nil : DGs X M [] [] tgNil := by
  refine ⟨fun d ρ x ρ' e => ?_, _, pgs_nil, fun vs ds σ H F ρ Q sm r ⟨ρ', e, k⟩ => ?_⟩
  · cases d <;> cases e
  cases r with
  | nil =>
    cases e
    exact ⟨rfl, k σ ⟨rfl, fun _ _ => rfl⟩ (fun _ _ _ _ st => st) sm⟩
  | cons _ _ => cases e
variable {sl sl2 : List Nat} {tg : Expr} {tgs : List Expr} {gm : D → SE → R Unit} {gms : List D → SE → R Unit}
theorem R.bind_ok {α β : Type} {r : R α} {f : α → SE → R β} {b : β} {ρ' : SE} (h : r.bind f = .ok b ρ') : ∃ a ρ1, r = .ok a ρ1 ∧ f a ρ1 = .ok b ρ' := by
  cases r with
  | bad => cases h
  | ok a ρ1 => exact ⟨a, ρ1, rfl, h⟩
  | ex e ρ1 => cases h
theorem dgs_cons (h1 : DG X M tg sl gm) (h2 : DGs X M tgs sl2 gms) (hs : (assignEach (tg :: tgs) X.env).map (·.2) = assign tg X.env :: (assignEach tgs X.env).map (·.2) := by rfl) : DGs X M (tg :: tgs) (sl ++ sl2) (tgCons gm gms) := by
  obtain ⟨x1, t1, p1, q1⟩ := h1
  obtain ⟨x2, t2, p2, q2⟩ := h2
  refine ⟨fun d ρ x ρ' e => ?_, _, pgs_cons p1 p2 hs, fun vs ds σ H F ρ Q sm r ⟨ρ', e, k⟩ => ?_⟩
  · cases d with
    | nil => cases e
    | cons d ds =>
      have e : (gm d ρ).bind (fun _ ρ1 => gms ds ρ1) = .ex x ρ' := e
      cases e1 : gm d ρ with
      | bad =>
        rw [e1] at e
        cases e
      | ex y ρ1 => exact x1 _ _ _ _ e1
      | ok u ρ1 =>
        rw [e1] at e
        exact x2 _ _ _ _ e
  cases r with
  | nil => cases e
  | @cons v vs d ds r rs =>
    obtain ⟨_, ρ1, e1, e2⟩ := R.bind_ok (show (gm d ρ).bind (fun _ ρ1 => gms ds ρ1) = _ from e)
    refine ⟨v, vs, rfl, q1 v d σ H F ρ _ sm r ⟨ρ1, e1, fun σ1 bu1 st1 sm1 => ?_⟩⟩
    exact q2 vs ds σ1 H F ρ1 Q sm1 rs ⟨ρ', e2, fun σ2 bu2 st2 sm2 => k σ2 ⟨bu2.1.trans bu1.1, fun j hj => (bu2.2 j fun z => hj (List.mem_append_right _ z)).trans (bu1.2 j fun z => hj (List.mem_append_left _ z))⟩ (fun F0 H0 σ0 ρ0 st => st2 _ _ _ _ (st1 _ _ _ _ st)) sm2⟩
theorem dg_tup {k : Nat} {n : Nat} (hc : X.calm = true) (h : DGs X M tgs sl gms) (hn : (assignEach tgs X.env).length = n := by rfl) (hst : (assignEach tgs X.env).findIdx? (·.1) = none := by rfl) (hK : M.K = X.K := by rfl) : DG X M (.Tuple tgs k pos) sl (tgTup n gms) := by
  obtain ⟨x1, t, p, q⟩ := h
  refine ⟨fun d ρ x ρ' e => ?_, _, pg_tup hc p hn hst, fun v d σ H F ρ Q sm r ⟨ρ', e, kk⟩ => ?_⟩
  · unfold tgTup at e
    split at e
    · split at e
      · exact x1 _ _ _ _ e
      · cases e
    · cases e
  cases r with
  | @tup a vs ds h1 h2 =>
    have e : (if ds.length = n then gms ds ρ else .bad) = .ok () ρ' := e
    split at e
    · rename_i hl
      exact ⟨_, _, rfl, by rw [← hK]; exact sm.sub.sqT h1, by rw [h2.length]; exact hl, q _ _ σ H F ρ Q sm h2 ⟨ρ', e, kk⟩⟩
    · cases e
  | _ => cases e
/-- target = value -/
def sAsg (gm : D → SE → R Unit) (m : DM RV) : DM Fl := fun ρ => (dFz m ρ).bind fun d ρ1 => (gm d ρ1).bind fun _ ρ2 => .ok .nx ρ2
theorem gm_ok {α : Type} {gm : D → SE → R Unit} {f : Unit → SE → R α} {d : D} {ρ1 : SE} {P : R α → Prop} (hx : NoEx gm) (hb : P .bad → False) (h : P ((gm d ρ1).bind f)) : ∃ ρ2, gm d ρ1 = .ok () ρ2 ∧ P (f () ρ2) := by
  cases e : gm d ρ1 with
  | bad =>
    rw [e] at h
    exact (hb h).elim
  | ok u ρ2 =>
    rw [e] at h
    exact ⟨ρ2, rfl, h⟩
  | ex x ρ2 => exact (hx _ _ _ _ e).elim
theorem ds_asg (he : DE X M W e m) (hg : DG X M tg sl gm) (hs : swapsWithSole [tg] e pos.line X.env = pure false := by rfl) (hw : swappedStores [tg] e X.env = pure none := by rfl)
    (h1 : (assignEach [tg] X.env).map (·.2) = [assign tg X.env] := by rfl) : DS X M W (.Assign [tg] e pos) (sAsg gm m) := by
  obtain ⟨t, p, q⟩ := he
  obtain ⟨x1, tg', pg, qg⟩ := hg
  refine ⟨_, ps_asg p pg hs hw h1, fun σ H F ρ E sm h => ?_⟩
  refine q σ H F ρ _ sm (PostD.go (PostD.step (P := fun r => PostS M W σ ρ F H r E) (fun z => z) (fun e ρ' z F' H' cls d st sm ok => z F' H' σ cls d st sm ok) h fun d ρ1 F1 H1 v st1 sm1 r1 h1 => ?_))
  obtain ⟨ρ2, e2, h2⟩ := gm_ok (P := fun r => PostS M W σ ρ F H r E) x1 (fun z => z) h1
  exact qg v d σ H1 F1 ρ1 _ sm1 r1 ⟨ρ2, e2, fun σ2 _ st2 sm2 => h2 F1 H1 σ2 (st2 _ _ _ _ st1) sm2⟩
/-- a, b = x, y of plain local names -/
def sPar (i j : Nat) (ms : DM (List AV)) : DM Fl := fun ρ => (ms ρ).bind fun as ρ1 => match as with
  | [.d d, .d e] => (stow ρ1 i (.im d)).bind fun _ ρ2 => (stow ρ2 j (.im e)).bind fun _ ρ3 => .ok .nx ρ3
  | _ => .bad
theorem PostA.goS {r : R (List AV)} {E : Ends} {g : List AV → SE → R Fl} (h : PostS M W σ ρ F H (r.bind g) E) {Q' : List V → Hp → Prop}
    (k : ∀ a ρ1 F1 H1 v, r = .ok a ρ1 → Stp F H σ ρ F1 H1 σ ρ1 → Sim M F1 H1 σ ρ1 → AvsOk M F1 σ ρ1 v a → PostS M W σ ρ F H (g a ρ1) E → Q' v H1) : PostA M W σ ρ F H r Q' := by
  cases r with
  | bad => exact h
  | ok a ρ1 => exact fun F1 H1 v st sm ok => k a ρ1 F1 H1 v rfl st sm ok h
  | ex e ρ1 => exact fun F' H' cls d st sm ok => h F' H' σ cls d st sm ok
theorem ds_par {i j : Nat} {x y : Str} {px py pt : Pos} {kt k2 pt2} (ha : DA X M W [a, b] ms) (hc : X.calm = true) (hN : X.N.Nodup) (hi : X.N[i]? = some x := by rfl) (hj : X.N[j]? = some y := by rfl) (hij : i ≠ j := by decide)
    (hx : X.env.scope.names.lookup x = some .local := by rfl) (hy : X.env.scope.names.lookup y = some .local := by rfl)
    (hw : swappedStores [.Tuple [.Name x px, .Name y py] kt pt] (.Tuple [a, b] k2 pt2) X.env = pure (some [x, y]) := by rfl)
    (hs : swapsWithSole [.Tuple [.Name x px, .Name y py] kt pt] (.Tuple [a, b] k2 pt2) pos.line X.env = pure false := by rfl) : DS X M W (.Assign [.Tuple [.Name x px, .Name y py] kt pt] (.Tuple [a, b] k2 pt2) pos) (sPar i j ms) := by
  obtain ⟨t, p, q⟩ := ha
  refine ⟨_, ps_par hc hN hi hj hij hx hy p hw hs, fun σ H F ρ E sm h => ?_⟩
  refine q σ H F ρ _ sm (PostA.goS h fun as ρ1 F1 H1 vs e0 st1 sm1 ok1 h1 => ?_)
  clear e0
  split at h1
  · rename_i d e
    cases ok1 with
    | cons r1 ok1 =>
      cases ok1 with
      | cons r2 ok1 =>
        cases ok1
        rename_i v w
        have r1 : Rep M F1 v d := r1
        have r2 : Rep M F1 w e := r2
        obtain ⟨ρ2, e2, h2⟩ := gm_ok (gm := fun d ρ => stow ρ i (.im d)) (d := d) (P := fun r => PostS M W σ ρ F H r E) (fun _ _ _ _ z => stow_ex z) (fun z => z) h1
        obtain ⟨ρ3, e3, h3⟩ := gm_ok (gm := fun d ρ => stow ρ j (.im d)) (d := e) (P := fun r => PostS M W σ ρ F H r E) (fun _ _ _ _ z => stow_ex z) (fun z => z) h2
        obtain ⟨st2, sm2⟩ := stow_ok (v := v) (sv := .im d) st1 r1 sm1 e2
        obtain ⟨st3, sm3⟩ := stow_ok (v := w) (sv := .im e) st2 r2 sm2 e3
        exact ⟨v, w, rfl, h3 F1 H1 _ st3 sm3⟩
  · exact h1.elim
/-- x += y -/
def sAug (i : Nat) (g : D → D → Option RV) (m : DM RV) : DM Fl := fun ρ => match ρ[i]? with
  | some (.im d) => (m ρ).bind fun r ρ1 => match (look ρ1 r).bind fun e => g (unl d) e with
    | some (.im f) => (stow ρ1 i (.im f)).bind fun _ ρ2 => .ok .nx ρ2
    | _ => .bad
  | _ => .bad
def Ip2 (M : Mx) (r : TIp) (g : D → D → Option RV) : Prop := ∀ (F H : Hp) (x y : V) (d e : D) (f : D) (Q : VK), SubF F H → Vw M F H x d → Vw M F H y e → g d e = some (.im f) → (∀ F' H' v, Alc F H F' H' → Rep M F' v f → Q v H') → r x y H Q
theorem ds_aug {i : Nat} {x : Str} {pos' : Pos} {op : Operator} {r : TIp} {g : D → D → Option RV} (ho : PIp X op r) (o : Ip2 M r g) (he : DE X M W e m) (hN : X.N.Nodup) (hi : X.N[i]? = some x := by rfl) (hx : Loc X.env.scope x := by first | exact Or.inl rfl | exact Or.inr rfl) (hf : X.fn x = true ∨ X.env.scope.names.lookup x = some .local := by first | exact .inl rfl | exact .inr rfl) :
    DS X M W (.AugAssign (.Name x pos') op e pos) (sAug i g m) := by
  obtain ⟨t, p, q⟩ := he
  refine ⟨_, ps_aug hN hi hx p ho hf, fun σ H F ρ E sm h => ?_⟩
  unfold sAug at h
  split at h
  · rename_i d e0
    obtain ⟨v, e1, r1⟩ := sm.im i d e0
    refine ⟨v, e1, q σ H F ρ _ sm (Post.goS h fun a ρ1 F1 H1 u _ st1 sm1 ok1 h1 => ?_)⟩
    split at h1
    · rename_i f e2
      obtain ⟨e3, l, hg⟩ := bind_some1 e2
      refine o F1 H1 v u (unl d) e3 f _ sm1.sub (Vw.of sm1.sub (r1.up st1.same)) (ok1.view0 sm1 l) hg fun F2 H2 w al r2 => ?_
      obtain ⟨ρ2, e4, h2⟩ := gm_ok (gm := fun d ρ => stow ρ i (.im d)) (d := f) (P := fun r => PostS M W σ ρ F H r E) (fun _ _ _ _ z => stow_ex z) (fun z => z) h1
      obtain ⟨st2, sm2⟩ := stow_ok (v := w) (sv := .im f) (st1.trans (al.stp _ _)) r2 (sm1.alc al) e4
      exact h2 F2 H2 _ st2 sm2
    · exact h1.elim
  · exact h.elim
def addI : D → D → Option RV
  | .int i, .int j => some (.im (.int (i + j)))
  | _, _ => none
theorem ip2_add : Ip2 M (ipI fun i j => i + j) addI := by
  intro F H x y d e f Q sub hx hy hg k
  unfold addI at hg
  split at hg
  · cases hg
    rw [vw_int hx, vw_int hy]
    exact ⟨_, _, rfl, rfl, k _ _ _ (Alc.refl sub) (.int _)⟩
  · cases hg
theorem ip2_sub : Ip2 M (ipI fun i j => i - j) subD := by
  intro F H x y d e f Q sub hx hy hg k
  unfold subD at hg
  split at hg
  · cases hg
    rw [vw_int hx, vw_int hy]
    exact ⟨_, _, rfl, rfl, k _ _ _ (Alc.refl sub) (.int _)⟩
  · cases hg
theorem ip_mulW : PIp X .Mult (rI CMulW fun i j => .int (i * j)) := fun pins s σ H x y v u Q I rx ry h =>
  (opI (f := inplaceOp .Mult) fun _ _ _ _ _ _ _ hc q => imul_int q hc.ok) pins s σ H x y v u Q I rx ry h
theorem ip2_mul : Ip2 M (rI CMulW fun i j => .int (i * j)) mulD := by
  intro F H x y d e f Q sub hx hy hg k
  unfold mulD at hg
  split at hg
  · obtain ⟨hc, e⟩ := some_ite hg
    cases e
    rw [vw_int hx, vw_int hy]
    have hc' : CMulW _ _ := of_decide_eq_true (p := _ + _ < 1000000) hc
    exact ⟨_, _, rfl, rfl, hc', k _ _ _ (Alc.refl sub) (.int _)⟩
  · cases hg
theorem ds_augAdd {i : Nat} {x : Str} {pos' : Pos} (he : DE X M W e m) (hN : X.N.Nodup) (hi : X.N[i]? = some x := by rfl) (hx : Loc X.env.scope x := by first | exact Or.inl rfl | exact Or.inr rfl) (hf : X.fn x = true ∨ X.env.scope.names.lookup x = some .local := by first | exact .inl rfl | exact .inr rfl) :
    DS X M W (.AugAssign (.Name x pos') .Add e pos) (sAug i addI m) := ds_aug ip_add ip2_add he hN hi hx hf
theorem ds_augSub {i : Nat} {x : Str} {pos' : Pos} (he : DE X M W e m) (hN : X.N.Nodup) (hi : X.N[i]? = some x := by rfl) (hx : Loc X.env.scope x := by first | exact Or.inl rfl | exact Or.inr rfl) (hf : X.fn x = true ∨ X.env.scope.names.lookup x = some .local := by first | exact .inl rfl | exact .inr rfl) :
    DS X M W (.AugAssign (.Name x pos') .Sub e pos) (sAug i subD m) := ds_aug ip_sub ip2_sub he hN hi hx hf
theorem ds_augMul {i : Nat} {x : Str} {pos' : Pos} (he : DE X M W e m) (hN : X.N.Nodup) (hi : X.N[i]? = some x := by rfl) (hx : Loc X.env.scope x := by first | exact Or.inl rfl | exact Or.inr rfl) (hf : X.fn x = true ∨ X.env.scope.names.lookup x = some .local := by first | exact .inl rfl | exact .inr rfl) :
    DS X M W (.AugAssign (.Name x pos') .Mult e pos) (sAug i mulD m) := ds_aug ip_mulW ip2_mul he hN hi hx hf
/-- xs[k] = e of a slot's list -/
def sSub (i : Nat) (mk me : DM RV) : DM Fl := fun ρ => (dFz me ρ).bind fun d ρ1 => match ρ1[i]? with
  | some (.ow _ (.ls _)) => (mk ρ1).bind fun r ρ2 => match ρ2[i]?, r with
    | some (.ow io (.ls ds)), .im (.int k) => match ixN ds.length k with
      | some j => .ok .nx (ρ2.set i (.ow io (.ls (ds.set j d))))
      | none => .bad
    | _, _ => .bad
  | _ => .bad
theorem ds_sub {k : Expr} {mk : DM RV} {i : Nat} {x : Str} {p' tpos : Pos} (he : DE X M W e m) (hk : DE X M W k mk) (hN : X.N[i]? = some x := by rfl) (hv : Vis X.env.scope x := by first | exact Or.inl rfl | exact Or.inr (Or.inl rfl) | exact Or.inr (Or.inr rfl)) (hd : (x == ("__debug__" : Str)) = false := by decide)
    (hcd : (x == ("__classdict__" : Str)) = false := by decide)
    (ha : ∀ v, assign (.Subscript (.Name x p') k tpos) X.env v = (do
      let ov ← holding [v] (eval (.Name x p') X.env)
      let iv ← holding [v, ov] (eval k X.env)
      standAt tpos
      holding [v, ov, iv] (setItem ov iv v)
      release [v, ov, iv] []) := by intro _; rfl) (hs : swapsWithSole [.Subscript (.Name x p') k tpos] e pos.line X.env = pure false := by rfl) (hw : swappedStores [.Subscript (.Name x p') k tpos] e X.env = pure none := by rfl)
    (h1 : (assignEach [.Subscript (.Name x p') k tpos] X.env).map (·.2) = [assign (.Subscript (.Name x p') k tpos) X.env] := by rfl) : DS X M W (.Assign [.Subscript (.Name x p') k tpos] e pos) (sSub i mk m) := by
  obtain ⟨t, p, q⟩ := he
  obtain ⟨tk, pk, qk⟩ := hk
  refine ⟨_, ps_asg p (pg_sub (pe_var hN hv hd hcd) pk set_list ha) hs hw h1, fun σ H F ρ E sm h => ?_⟩
  refine q σ H F ρ _ sm (PostD.go (PostD.step (P := fun r => PostS M W σ ρ F H r E) (fun z => z) (fun e ρ' z F' H' cls d st sm ok => z F' H' σ cls d st sm ok) h fun d ρ1 F1 H1 v st1 sm1 r1 h1 => ?_))
  split at h1
  · rename_i io0 ds0 e0
    obtain ⟨y, vs0, e1, _⟩ := sm1.owl i io0 ds0 e0
    refine ⟨.ref y, e1, qk σ H1 F1 ρ1 _ sm1 (Post.goS (PostS.from st1 h1) fun r ρ2 F2 H2 u e2 st2 sm2 ok2 h2 => ?_)⟩
    clear e2
    split at h2
    · rename_i io ds kk e3
      split at h2
      · rename_i j e4
        obtain ⟨z, vs, e5, h3, h4, h5⟩ := sm2.owl i io ds e3
        rw [e1] at e5
        cases e5
        cases ok2
        refine ⟨y, vs, kk, j, rfl, rfl, h3, by rw [h5.length]; exact e4, ?_⟩
        obtain ⟨st3, sm3⟩ := upd_ok st2 sm2 e3 e1 (Reps.set (r1.up st2.same) j h5)
        exact h2 F2 _ σ st3 sm3
      · exact h2.elim
    · exact h2.elim
  · exact h1.elim
theorem tgNil_ex : NoEx tgNil := fun d ρ x ρ' e => by
  cases d <;> cases e
theorem tgCons_ex {g : D → SE → R Unit} {gs : List D → SE → R Unit} (h1 : NoEx g) (h2 : NoEx gs) : NoEx (tgCons g gs) := fun d ρ x ρ' e => by
  cases d with
  | nil => cases e
  | cons d ds =>
    have e : (g d ρ).bind (fun _ ρ1 => gs ds ρ1) = .ex x ρ' := e
    cases e1 : g d ρ with
    | bad =>
      rw [e1] at e
      cases e
    | ex y ρ1 => exact h1 _ _ _ _ e1
    | ok u ρ1 =>
      rw [e1] at e
      exact h2 _ _ _ _ e
theorem tgTup_ex {n : Nat} {gs : List D → SE → R Unit} (h : NoEx gs) : NoEx (tgTup n gs) := fun d ρ x ρ' e => by
  unfold tgTup at e
  split at e
  · split at e
    · exact h _ _ _ _ e
    · cases e
  · cases e
end
end DL

/- part -/
set_option Elab.async false
set_option linter.all false
set_option maxRecDepth 100000
set_option maxHeartbeats 4000000
namespace DL
open PySem PySem.Spec PyProof.Rows L2
section
variable {M : Mx} {W : WX} {X : Cx} {F H F' H' F1 H1 H0 : Hp} {σ : L2.St} {ρ ρ1 : SE}
variable {a b c e : Expr} {ma mb mc m : DM RV} {mt mu : DM Bool} {ms : DM (List AV)} {es : List Expr} {pos : Pos} {s t : DM Fl}
/-! ### while -/
def wloop (c : DM Bool) (b : DM Fl) : Nat → SE → R Fl
  | 0, _ => .bad
  | n + 1, ρ => (c ρ).bind fun k ρ1 => if k = true then (b ρ1).bind fun f ρ2 => match f with
      | .nx => wloop c b n ρ2
      | .ct => wloop c b n ρ2
      | .bk => .ok .nx ρ2
      | .rt r => .ok (.rt r) ρ2
    else .ok .nx ρ1
def isBad {α : Type} : R α → Bool
  | .bad => true
  | _ => false
open Classical in
noncomputable def sWhile (c : DM Bool) (b : DM Fl) : DM Fl := fun ρ => if h : ∃ n, isBad (wloop c b n ρ) = false then wloop c b (Classical.choose h) ρ else .bad
theorem bind_bad {α β : Type} {r : R α} {f : α → SE → R β} (h : isBad (r.bind f) = false) : isBad r = false := by
  cases r with
  | bad => cases h
  | ok a ρ => rfl
  | ex e ρ => rfl
theorem wloop_up {c : DM Bool} {b : DM Fl} : ∀ (n : Nat) (ρ : SE), isBad (wloop c b n ρ) = false → wloop c b (n + 1) ρ = wloop c b n ρ
  | 0, ρ, h => by cases h
  | n + 1, ρ, h => by
    unfold wloop at h ⊢
    cases e : c ρ with
    | bad => rfl
    | ex x ρ1 => rfl
    | ok k ρ1 =>
      rw [e] at h
      show (if k = true then _ else _) = (if k = true then _ else _)
      have h : isBad (if k = true then (b ρ1).bind fun f ρ2 => match f with
          | .nx => wloop c b n ρ2
          | .ct => wloop c b n ρ2
          | .bk => .ok .nx ρ2
          | .rt r => .ok (.rt r) ρ2
        else .ok .nx ρ1) = false := h
      cases k with
      | false => rfl
      | true =>
        rw [if_pos rfl] at h ⊢
        rw [if_pos rfl]
        cases e2 : b ρ1 with
        | bad => rfl
        | ex x ρ2 => rfl
        | ok f ρ2 =>
          rw [e2] at h
          cases f with
          | nx => exact wloop_up n ρ2 h
          | ct => exact wloop_up n ρ2 h
          | bk => rfl
          | rt r => rfl
theorem wloop_le {c : DM Bool} {b : DM Fl} {n : Nat} {ρ : SE} (h : isBad (wloop c b n ρ) = false) : ∀ k, wloop c b (n + k) ρ = wloop c b n ρ
  | 0 => rfl
  | k + 1 => by
    have ih := wloop_le h k
    rw [← ih] at h
    rw [← ih]
    exact wloop_up (n + k) ρ h
theorem sWhile_of {c : DM Bool} {b : DM Fl} {n : Nat} {ρ : SE} (h : isBad (wloop c b n ρ) = false) : sWhile c b ρ = wloop c b n ρ := by
  unfold sWhile
  have hx : ∃ n, isBad (wloop c b n ρ) = false := ⟨n, h⟩
  rw [dif_pos hx]
  have h2 := Classical.choose_spec hx
  generalize Classical.choose hx = k at h2 ⊢
  rw [← wloop_le h k, ← wloop_le h2 n, Nat.add_comm]
theorem sWhile_ex {c : DM Bool} {b : DM Fl} {ρ : SE} (h : isBad (sWhile c b ρ) = false) : ∃ n, sWhile c b ρ = wloop c b n ρ ∧ isBad (wloop c b n ρ) = false := by
  unfold sWhile at h ⊢
  split at h
  · rename_i hx
    rw [dif_pos hx]
    exact ⟨_, rfl, h⟩
  · cases h
/-- one turn -/
theorem sWhile_eq (c : DM Bool) (b : DM Fl) (ρ : SE) : sWhile c b ρ = (c ρ).bind fun k ρ1 => if k = true then (b ρ1).bind fun f ρ2 => match f with
      | .nx => sWhile c b ρ2
      | .ct => sWhile c b ρ2
      | .bk => .ok .nx ρ2
      | .rt r => .ok (.rt r) ρ2
    else .ok .nx ρ1 := by
  cases e : c ρ with
  | bad =>
    unfold sWhile
    rw [dif_neg]
    · rfl
    · rintro ⟨n, h⟩
      cases n with
      | zero => cases h
      | succ n =>
        unfold wloop at h
        rw [e] at h
        cases h
  | ex x ρ1 =>
    have e1 : wloop c b 1 ρ = .ex x ρ1 := by
      unfold wloop
      rw [e]
      rfl
    rw [sWhile_of (n := 1) (by rw [e1]; rfl), e1]
    rfl
  | ok k ρ1 =>
    have un : ∀ n, wloop c b (n + 1) ρ = if k = true then (b ρ1).bind fun f ρ2 => match f with
          | .nx => wloop c b n ρ2
          | .ct => wloop c b n ρ2
          | .bk => .ok .nx ρ2
          | .rt r => .ok (.rt r) ρ2
        else .ok .nx ρ1 := fun n => by
      rw [wloop, e]
      rfl
    show _ = if k = true then _ else _
    cases k with
    | false =>
      rw [sWhile_of (n := 1) (by rw [un]; rfl), un, if_neg Bool.false_ne_true, if_neg Bool.false_ne_true]
    | true =>
      rw [if_pos rfl]
      simp only [if_true] at un
      cases e2 : b ρ1 with
      | bad =>
        unfold sWhile
        rw [dif_neg]
        · rfl
        · rintro ⟨n, h⟩
          cases n with
          | zero => cases h
          | succ n =>
            rw [un, e2] at h
            cases h
      | ex x ρ2 =>
        rw [sWhile_of (n := 1) (by rw [un, e2]; rfl), un, e2]
        rfl
      | ok f ρ2 =>
        rw [e2] at un
        have go : (∀ n, wloop c b (n + 1) ρ = wloop c b n ρ2) → sWhile c b ρ = sWhile c b ρ2 := fun h => by
          by_cases hx : ∃ n, isBad (wloop c b n ρ2) = false
          · obtain ⟨n, hn⟩ := hx
            rw [sWhile_of hn, sWhile_of (n := n + 1) (by rw [h]; exact hn), h]
          · unfold sWhile
            rw [dif_neg hx, dif_neg]
            rintro ⟨n, h2⟩
            cases n with
            | zero => cases h2
            | succ n =>
              rw [h] at h2
              exact hx ⟨n, h2⟩
        cases f with
        | nx => exact go un
        | ct => exact go un
        | bk =>
          rw [sWhile_of (n := 1) (by rw [un]; rfl), un]
          rfl
        | rt r =>
          rw [sWhile_of (n := 1) (by rw [un]; rfl), un]
          rfl
theorem ds_while {body : List Stmt} (hp : PassesOwn (model X.prog X.w) X.A X.env X.xe) (hc : DT X M W c mt) (hb : DSs X M W body s) : DS X M W (.While c body [] pos) (sWhile mt s) := by
  obtain ⟨tc, pc, qc⟩ := hc
  obtain ⟨tb, pb, qb⟩ := hb
  refine ⟨_, ps_while hp pc pb, fun σ H F ρ E sm h => ?_⟩
  have nb : isBad (sWhile mt s ρ) = false := by
    cases e : sWhile mt s ρ with
    | bad =>
      rw [e] at h
      exact h.elim
    | _ => rfl
  obtain ⟨n, en, hn⟩ := sWhile_ex nb
  rw [en] at h
  refine ⟨fun k σ' H' => ∃ F' ρ', Sim M F' H' σ' ρ' ∧ PostS M W σ' ρ' F' H' (wloop mt s k ρ') E, ⟨n, F, ρ, sm, h⟩, ?_⟩
  rintro k σ1 H1 ⟨F1, ρ1, sm1, h1⟩
  cases k with
  | zero => exact h1.elim
  | succ k =>
    unfold wloop at h1
    refine qc σ1 H1 F1 ρ1 _ sm1 (PostT.goS h1 fun c ρ2 F2 H2 _ st2 sm2 h2 => ?_)
    cases c with
    | false =>
      rw [if_neg Bool.false_ne_true]
      exact h2 F2 H2 σ1 st2 sm2
    | true =>
      rw [if_pos rfl]
      refine ⟨fun σ' H' => ∃ F' ρ', Sim M F' H' σ' ρ' ∧ PostS M W σ' ρ' F' H' (wloop mt s k ρ') E, fun σ' H' q => ⟨k, Nat.lt_succ_self k, q⟩, ?_⟩
      refine qb σ1 H2 F2 ρ2 _ sm2 ?_
      rw [if_pos rfl] at h2
      have h3 := PostS.from st2 h2
      cases e : s ρ2 with
      | bad =>
        rw [e] at h3
        exact h3
      | ex x ρ3 =>
        rw [e] at h3
        exact h3
      | ok f ρ3 =>
        rw [e] at h3
        cases f with
        | nx => exact fun F3 H3 σ3 st3 sm3 => ⟨F3, ρ3, sm3, PostS.from st3 h3⟩
        | ct => exact fun F3 H3 σ3 st3 sm3 => ⟨F3, ρ3, sm3, PostS.from st3 h3⟩
        | bk => exact h3
        | rt r => exact h3

/-! ### for -/
def ItOk (M : Mx) (J : It) (F1 : Hp) (ds : List D) : Prop := ∀ (i : Nat) F H, Same F1 F → SubF F H → (∀ d, ds[i]? = some d → J.go i H ∧ ∀ x H', J.yld i H x H' → ∃ F', Alc F H F' H' ∧ Rep M F' x d) ∧ (ds.length ≤ i → J.stop i H)
def PostI (M : Mx) (W : WX) (σ : L2.St) (ρ : SE) (F H : Hp) (r : R (List D)) (Q : It → Hp → Prop) : Prop := match r with
  | .bad => False
  | .ok ds ρ' => ∀ F' H' J, Stp F H σ ρ F' H' σ ρ' → Sim M F' H' σ ρ' → ItOk M J F' ds → Q J H'
  | .ex e ρ' => ∀ F' H' cls d, Stp F H σ ρ F' H' σ ρ' → Sim M F' H' σ ρ' → ExcOk M F' H' cls d e → W cls d σ H'
def DI (X : Cx) (M : Mx) (W : WX) (tg iter : Expr) (m : DM (List D)) : Prop := ∃ t, PI X tg iter t ∧ ∀ σ H F ρ Q, Sim M F H σ ρ → PostI M W σ ρ F H (m ρ) Q → t σ H Q
def floop (gm : D → SE → R Unit) (b : DM Fl) : List D → SE → R Fl
  | [], ρ => .ok .nx ρ
  | d :: ds, ρ => (gm d ρ).bind fun _ ρ1 => (b ρ1).bind fun f ρ2 => match f with
      | .nx => floop gm b ds ρ2
      | .ct => floop gm b ds ρ2
      | .bk => .ok .nx ρ2
      | .rt r => .ok (.rt r) ρ2
def sFor (mi : DM (List D)) (gm : D → SE → R Unit) (b : DM Fl) : DM Fl := fun ρ => (mi ρ).bind fun ds ρ1 => floop gm b ds ρ1
theorem ds_for {tg iter : Expr} {body : List Stmt} {mi : DM (List D)} {sl : List Nat} {gm : D → SE → R Unit} (hp : PassesOwn (model X.prog X.w) X.A X.env X.xe) (hc : X.calm = true) (hi : DI X M W tg iter mi) (hg : DG X M tg sl gm) (hb : DSs X M W body s)
    (hs : ∀ x, foldedSetIterable iter X.env x = pure x := by intro _; rfl) : DS X M W (.For tg iter body [] pos) (sFor mi gm s) := by
  obtain ⟨ti, pi, qi⟩ := hi
  obtain ⟨xg, tg', pg, qg⟩ := hg
  obtain ⟨tb, pb, qb⟩ := hb
  refine ⟨_, ps_for hp hc pi pg pb hs, fun σ H F ρ E sm h => ?_⟩
  refine qi σ H F ρ _ sm ?_
  unfold sFor at h
  cases e : mi ρ with
  | bad =>
    rw [e] at h
    exact h
  | ex x ρ1 =>
    rw [e] at h
    exact fun F' H' cls d st sm ok => h F' H' σ cls d st sm ok
  | ok ds ρ1 =>
    rw [e] at h
    intro F1 H1 J st1 sm1 it
    have h : PostS M W σ ρ F H (floop gm s ds ρ1) E := h
    refine ⟨fun i k σ' H' => k = ds.length - i ∧ i ≤ ds.length ∧ ∃ F' ρ', Same F1 F' ∧ Sim M F' H' σ' ρ' ∧ PostS M W σ' ρ' F' H' (floop gm s (ds.drop i) ρ') E, ⟨ds.length, by simp, Nat.zero_le _, F1, ρ1, Same.refl _, sm1, PostS.from st1 h⟩, ?_⟩
    rintro i k σ2 H2 ⟨rfl, hi, F2, ρ2, sa, sm2, h2⟩
    by_cases lt : i < ds.length
    · have ed : ds.drop i = ds[i] :: ds.drop (i + 1) := List.drop_eq_getElem_cons lt
      rw [ed] at h2
      obtain ⟨g1, g2⟩ := (it i F2 H2 sa sm2.sub).1 ds[i] (List.getElem?_eq_getElem lt)
      refine .inr ⟨g1, fun σ' H' => ∃ F' ρ', Same F1 F' ∧ Sim M F' H' σ' ρ' ∧ PostS M W σ' ρ' F' H' (floop gm s (ds.drop (i + 1)) ρ') E, fun σ' H' q => ⟨ds.length - (i + 1), by omega, rfl, lt, q⟩, fun x H' y => ?_⟩
      obtain ⟨F3, al, r⟩ := g2 x H' y
      have sm3 := sm2.alc al
      obtain ⟨ρ4, e4, h4⟩ := gm_ok (P := fun r => PostS M W σ2 ρ2 F2 H2 r E) xg (fun z => z) h2
      refine qg x ds[i] σ2 H' F3 ρ2 _ sm3 r ⟨ρ4, e4, fun σ4 _ st4 sm4 => ?_⟩
      have st5 := st4 _ _ _ _ (al.stp σ2 ρ2)
      refine qb σ4 H' F3 ρ4 _ sm4 ?_
      have h5 := PostS.from st5 h4
      have sa5 := sa.trans al.same
      cases e5 : s ρ4 with
      | bad =>
        rw [e5] at h5
        exact h5
      | ex x ρ6 =>
        rw [e5] at h5
        exact h5
      | ok f ρ6 =>
        rw [e5] at h5
        cases f with
        | nx => exact fun F6 H6 σ6 st6 sm6 => ⟨F6, ρ6, sa5.trans st6.same, sm6, PostS.from st6 h5⟩
        | ct => exact fun F6 H6 σ6 st6 sm6 => ⟨F6, ρ6, sa5.trans st6.same, sm6, PostS.from st6 h5⟩
        | bk => exact h5
        | rt r => exact h5
    · have e1 : i = ds.length := by omega
      subst e1
      refine .inl ⟨(it _ F2 H2 sa sm2.sub).2 (Nat.le_refl _), ?_⟩
      rw [List.drop_length] at h2
      exact h2 F2 H2 σ2 (Stp.refl _ _ _ _) sm2
/-! what a for walks -/
def iSeqs (r : D) (ρ : SE) : R (List D) := match r with
  | .lst ds => .ok ds ρ
  | .tl _ ds => .ok ds ρ
  | .tup ds => .ok ds ρ
  | .scr ns => .ok (ns.map D.int) ρ
  | .str x => .ok (x.cps.toList.map fun c => D.str ⟨#[c]⟩) ρ
  | _ => .bad
def iSeq (m : DM RV) : DM (List D) := fun ρ => (dFz m ρ).bind iSeqs
theorem it_listG {a : Addr} {vs : List V} {ds : List D} (h : ∀ F2 H2, Same F F2 → SubF F2 H2 → H2 a = some (.lst vs)) (r : Reps M F vs ds) : ItOk M (Itl M.K a) F ds := fun i F2 H2 sa sub => by
  refine ⟨fun d hd => ?_, fun hl => ⟨vs, .inl (.inl (h F2 H2 sa sub)), by rw [r.length]; exact hl⟩⟩
  obtain ⟨v, h1, h2⟩ := r.get hd
  have hs : SqL M.K H2 a vs := .inl (.inl (h F2 H2 sa sub))
  refine ⟨⟨vs, v, hs, h1⟩, fun x H' y => ?_⟩
  obtain ⟨e, y⟩ := y
  subst e
  have e2 := y vs hs
  rw [h1] at e2
  cases e2
  exact ⟨F2, Alc.refl sub, h2.up sa⟩
theorem it_list {a : Addr} {vs : List V} {ds : List D} (h : F a = some (.lst vs)) (r : Reps M F vs ds) : ItOk M (Itl M.K a) F ds := it_listG (fun F2 H2 sa sub => sub.go _ _ (sa _ _ h)) r
theorem it_tl {a : Addr} {n : Nat} {vs : List V} {ds : List D} (h : F a = some (bw n vs)) (r : Reps M F vs ds) : ItOk M (Itl M.K a) F ds := it_listG (fun F2 H2 sa sub => sub.bk _ _ _ (sa _ _ h)) r
theorem it_tup {a : Addr} {vs : List V} {ds : List D} (h : SqT M.K F a vs) (r : Reps M F vs ds) : ItOk M (Itt M.K a) F ds := fun i F2 H2 sa sub => by
  have hs : SqT M.K H2 a vs := sub.sqT (same_sqT sa h)
  refine ⟨fun d hd => ?_, fun hl => ⟨vs, hs, by rw [r.length]; exact hl⟩⟩
  obtain ⟨v, h1, h2⟩ := r.get hd
  refine ⟨⟨vs, v, hs, h1⟩, fun x H' y => ?_⟩
  obtain ⟨e, y⟩ := y
  subst e
  have e2 := y vs hs
  rw [h1] at e2
  cases e2
  exact ⟨F2, Alc.refl sub, h2.up sa⟩
theorem it_scr {a : Addr} {ns : List Int} (h : SqL M.K F a (ns.map V.int)) : ItOk M (Itl M.K a) F (ns.map D.int) := fun i F2 H2 sa sub => by
  have hs : SqL M.K H2 a (ns.map V.int) := sub.sqL (same_sqL sa h)
  refine ⟨fun d hd => ?_, fun hl => ⟨_, hs, by rw [List.length_map] at hl ⊢; exact hl⟩⟩
  obtain ⟨v, h1, h2⟩ := (Reps.ofInts (M := M) (F := F2) ns).get hd
  refine ⟨⟨_, v, hs, h1⟩, fun x H' y => ?_⟩
  obtain ⟨e, y⟩ := y
  subst e
  have e2 := y _ hs
  rw [h1] at e2
  cases e2
  exact ⟨F2, Alc.refl sub, h2⟩
theorem it_str (x : Str) : ItOk M (Its x) F (x.cps.toList.map fun c => D.str ⟨#[c]⟩) := fun i F2 H2 sa sub => by
  refine ⟨fun d hd => ?_, fun hl => by
    rw [List.length_map, Array.length_toList] at hl
    exact hl⟩
  rw [List.getElem?_map] at hd
  obtain ⟨c, h1, h2⟩ := map_some hd
  subst h2
  have h3 : x.cps[i]? = some c := by
    rw [← h1]
    simp
  refine ⟨(Array.getElem?_eq_some_iff.mp h3).1, fun y H' z => ?_⟩
  obtain ⟨e, c', e2, e3⟩ := z
  subst e e3
  rw [h3] at e2
  cases e2
  exact ⟨F2, Alc.refl sub, .str _⟩
theorem PI.or {tg iter : Expr} {w1 w2 : TI} (h1 : PI X tg iter w1) (h2 : PI X tg iter w2) : PI X tg iter (fun σ H R => w1 σ H R ∨ w2 σ H R) := ⟨fun pins s σ H R I h => h.elim (h1.run pins s σ H R I) (h2.run pins s σ H R I)⟩
theorem PostD.goI {r : R RV} {Q : It → Hp → Prop} {g : D → SE → R (List D)} (h : PostI M W σ ρ F H ((r.bind fz).bind g) Q) {Q' : VK}
    (k : ∀ d ρ1 F1 H1 v, (∃ ρ', r.bind fz = .ok d ρ') → Stp F H σ ρ F1 H1 σ ρ1 → Sim M F1 H1 σ ρ1 → Rep M F1 v d → PostI M W σ ρ F H (g d ρ1) Q → Q' v H1) : Post M W σ ρ F H r Q' := by
  refine PostD.go ?_
  cases e : r.bind fz with
  | bad =>
    rw [e] at h
    exact h
  | ok d ρ1 =>
    rw [e] at h
    exact fun F1 H1 v st sm r => k d ρ1 F1 H1 v ⟨_, e⟩ st sm r h
  | ex x ρ1 =>
    rw [e] at h
    exact h
theorem di_seq {tg : Expr} (he : DE X M W e m) (hK : M.K = X.K := by rfl) : DI X M W tg e (iSeq m) := by
  obtain ⟨t, p, q⟩ := he
  refine ⟨_, PI.or (pi_list p) (PI.or (pi_tup p) (pi_str p)), fun σ H F ρ Q sm h => ?_⟩
  have kind : ∀ d ρ', dFz m ρ = .ok d ρ' → (∃ ds, d = .lst ds) ∨ (∃ n ds, d = .tl n ds) ∨ (∃ ns, d = .scr ns) ∨ (∃ ds, d = .tup ds) ∨ (∃ x, d = .str x) ∨ ∀ ρ2, iSeqs d ρ2 = .bad := fun d ρ' _ => by
    cases d with
    | lst ds => exact .inl ⟨ds, rfl⟩
    | tl n ds => exact .inr (.inl ⟨n, ds, rfl⟩)
    | scr ds => exact .inr (.inr (.inl ⟨ds, rfl⟩))
    | tup ds => exact .inr (.inr (.inr (.inl ⟨ds, rfl⟩)))
    | str ds => exact .inr (.inr (.inr (.inr (.inl ⟨ds, rfl⟩))))
    | _ => exact .inr (.inr (.inr (.inr (.inr fun _ => rfl))))
  have h : PostI M W σ ρ F H (((m ρ).bind fz).bind iSeqs) Q := h
  cases e0 : (m ρ).bind fz with
  | bad =>
    rw [e0] at h
    exact h.elim
  | ex x ρ1 =>
    refine .inl (q σ H F ρ _ sm (PostD.goI h fun d ρ1 F1 H1 v ⟨ρ2, e1⟩ st1 sm1 r1 h1 => ?_))
    rw [e0] at e1
    cases e1
  | ok d ρ0 =>
    rcases kind d ρ0 e0 with ⟨ds, rfl⟩ | ⟨n, ds, rfl⟩ | ⟨ns, rfl⟩ | ⟨ds, rfl⟩ | ⟨x, rfl⟩ | hb
    · refine .inl (q σ H F ρ _ sm (PostD.goI h fun d ρ1 F1 H1 v ⟨ρ2, e1⟩ st1 sm1 r1 h1 => ?_))
      rw [e0] at e1
      cases e1
      cases r1 with
      | lst h2 h3 => exact ⟨_, rfl, ⟨_, .inl (.inl (sm1.sub.go _ _ h2))⟩, hK ▸ h1 F1 H1 _ st1 sm1 (it_list h2 h3)⟩
    · refine .inl (q σ H F ρ _ sm (PostD.goI h fun d ρ1 F1 H1 v ⟨ρ2, e1⟩ st1 sm1 r1 h1 => ?_))
      rw [e0] at e1
      cases e1
      cases r1 with
      | tl h2 h3 => exact ⟨_, rfl, ⟨_, .inl (.inl (sm1.sub.bk _ _ _ h2))⟩, hK ▸ h1 F1 H1 _ st1 sm1 (it_tl h2 h3)⟩
    · refine .inl (q σ H F ρ _ sm (PostD.goI h fun d ρ1 F1 H1 v ⟨ρ2, e1⟩ st1 sm1 r1 h1 => ?_))
      rw [e0] at e1
      cases e1
      cases r1 with
      | scr h2 => exact ⟨_, rfl, ⟨_, hK ▸ sm1.sub.sqL h2⟩, hK ▸ h1 F1 H1 _ st1 sm1 (it_scr h2)⟩
    · refine .inr (.inl (q σ H F ρ _ sm (PostD.goI h fun d ρ1 F1 H1 v ⟨ρ2, e1⟩ st1 sm1 r1 h1 => ?_)))
      rw [e0] at e1
      cases e1
      cases r1 with
      | tup h2 h3 => exact ⟨_, rfl, ⟨_, hK ▸ sm1.sub.sqT h2⟩, hK ▸ h1 F1 H1 _ st1 sm1 (it_tup h2 h3)⟩
    · refine .inr (.inr (q σ H F ρ _ sm (PostD.goI h fun d ρ1 F1 H1 v ⟨ρ2, e1⟩ st1 sm1 r1 h1 => ?_)))
      rw [e0] at e1
      cases e1
      cases r1
      exact ⟨_, rfl, h1 F1 H1 _ st1 sm1 (it_str x)⟩
    · rw [e0] at h
      have h : PostI M W σ ρ F H (iSeqs d ρ0) Q := h
      rw [hb] at h
      exact h.elim
end
end DL

/- part -/
set_option Elab.async false
set_option linter.all false
set_option maxRecDepth 100000
set_option maxHeartbeats 4000000
namespace DL
open PySem PySem.Spec PyProof.Rows L2
/-! ### a def's promise -/
def argsIn (svs : SE) : Prop := ∀ (i : Nat) sv, svs[i]? = some sv → (∃ d, sv = .im d) ∨ ∃ ds, sv = .ow true ds
/-- called with such data it gives what m says -/
def spD (M : Mx) (n : Nat) (m : SE → R RV) : Sp := fun vs H Q E => ∃ F svs, vs.length = n ∧ argsIn svs ∧ Sim M F H (vs.map some) svs ∧ Post M (fun cls d _ H' => E cls d H') (vs.map some) svs F H (m svs) Q
def argSV (ρ : SE) : AV → SV
  | .d d => .im d
  | .io i => match ρ[i]? with
    | some (.ow _ ds) => .ow true ds
    | _ => .no
def iosOf : Nat → List AV → List (Nat × Nat)
  | _, [] => []
  | j, .d _ :: r => iosOf (j + 1) r
  | j, .io i :: r => (j, i) :: iosOf (j + 1) r
def notBo : RV → Bool
  | .bo _ => false
  | _ => true
def backIo (ρ : SE) (j i : Nat) (svs : SE) : Option SE := match svs[j]?, ρ[i]? with
  | some (.ow true ds), some (.ow io _) => some (ρ.set i (.ow io ds))
  | _, _ => none
def callR (m : SE → R RV) (as : List AV) (ρ : SE) : R RV := match iosOf 0 as with
  | [] => match m (as.map (argSV ρ)) with
    | .bad => .bad
    | .ok r _ => if notBo r = true then .ok r ρ else .bad
    | .ex e _ => .ex e ρ
  | [(j, i)] => match m (as.map (argSV ρ)) with
    | .bad => .bad
    | .ok r svs => if notBo r = true then (match backIo ρ j i svs with
      | some ρ2 => .ok r ρ2
      | none => .bad) else .bad
    | .ex e svs => (match backIo ρ j i svs with
      | some ρ2 => .ex e ρ2
      | none => .bad)
  | _ => .bad
/-- n parameters, the last of them by their defaults ds -/
def dCall (n : Nat) (ds : List D) (m : SE → R RV) (ms : DM (List AV)) : DM RV := fun ρ => (ms ρ).bind fun as ρ1 => if (as ++ ds.map AV.d).length = n then callR m (as ++ ds.map AV.d) ρ1 else .bad
section
variable {M : Mx} {W : WX} {X : Cx} {F H F' H' F1 H1 F2 H2 H0 : Hp} {σ : L2.St} {ρ ρ1 : SE} {vs : List V} {as : List AV}
theorem iosOf_mem : ∀ {as : List AV} {n i k : Nat}, as[i]? = some (.io k) → (n + i, k) ∈ iosOf n as
  | [], _, _, _, h => by simp at h
  | .d d :: r, n, 0, k, h => by simp at h
  | .io q :: r, n, 0, k, h => by
    simp at h
    subst h
    exact List.mem_cons_self
  | .d d :: r, n, i + 1, k, h => by
    have h2 := iosOf_mem (n := n + 1) (show r[i]? = some (.io k) by simpa using h)
    rw [show n + 1 + i = n + (i + 1) by omega] at h2
    exact h2
  | .io q :: r, n, i + 1, k, h => by
    have h2 := iosOf_mem (n := n + 1) (show r[i]? = some (.io k) by simpa using h)
    rw [show n + 1 + i = n + (i + 1) by omega] at h2
    exact List.mem_cons_of_mem _ h2
theorem iosOf_at : ∀ {as : List AV} {n j k : Nat}, (j, k) ∈ iosOf n as → ∃ i, j = n + i ∧ as[i]? = some (.io k)
  | [], _, _, _, h => by cases h
  | .d d :: r, n, j, k, h => by
    obtain ⟨i, e, h2⟩ := iosOf_at (as := r) (n := n + 1) h
    exact ⟨i + 1, by omega, by simpa using h2⟩
  | .io q :: r, n, j, k, h => by
    rcases List.mem_cons.mp h with h | h
    · cases h
      exact ⟨0, by omega, rfl⟩
    · obtain ⟨i, e, h2⟩ := iosOf_at (as := r) (n := n + 1) h
      exact ⟨i + 1, by omega, by simpa using h2⟩
theorem AvsOk.len : ∀ {vs : List V} {as : List AV}, AvsOk M F σ ρ vs as → vs.length = as.length
  | _, _, .nil => rfl
  | _, _, .cons _ h => congrArg (· + 1) (AvsOk.len h)
theorem AvsOk.at : ∀ {vs : List V} {as : List AV} {i : Nat} {a : AV}, AvsOk M F σ ρ vs as → as[i]? = some a → ∃ v, vs[i]? = some v ∧ AvOk M F σ ρ v a
  | _, _, _, _, .nil, h => by simp at h
  | _, _, 0, _, .cons h _, e => ⟨_, rfl, by
    simp at e
    subst e
    exact h⟩
  | _, _, i + 1, a, .cons _ t, e => by
    obtain ⟨v, h1, h2⟩ := AvsOk.at (i := i) t (by simpa using e)
    exact ⟨v, by simpa using h1, h2⟩
theorem arg_at {i : Nat} {sv : SV} (e : (as.map (argSV ρ))[i]? = some sv) : ∃ a, as[i]? = some a ∧ argSV ρ a = sv := by
  rw [List.getElem?_map] at e
  exact map_some e
theorem arg_ow {a : AV} {io : Bool} {ds : OC} (h : argSV ρ a = .ow io ds) : io = true ∧ ∃ k q, a = .io k ∧ ρ[k]? = some (.ow q ds) := by
  cases a with
  | d d => cases h
  | io k =>
    have h : (match ρ[k]? with
      | some (.ow _ ds) => SV.ow true ds
      | _ => .no) = .ow io ds := h
    split at h
    · rename_i q es e
      cases h
      exact ⟨rfl, k, q, rfl, e⟩
    · cases h
theorem arg_im {a : AV} {d : D} (h : argSV ρ a = .im d) : a = .d d := by
  cases a with
  | d d =>
    cases h
    rfl
  | io k =>
    have h : (match ρ[k]? with
      | some (.ow _ ds) => SV.ow true ds
      | _ => .no) = .im d := h
    split at h <;> cases h
theorem arg_some {i : Nat} {v : V} (h : (vs.map some)[i]? = some (some v)) : vs[i]? = some v := by
  rw [List.getElem?_map] at h
  obtain ⟨x, e, e2⟩ := map_some h
  cases e2
  exact e
theorem some_arg {i : Nat} {v : V} (h : vs[i]? = some v) : (vs.map some)[i]? = some (some v) := by
  rw [List.getElem?_map, h]
  rfl
/-- an argument's list is a slot's -/
theorem own_arg (ok : AvsOk M F σ ρ vs as) {b : Addr} (h : Own (vs.map some) (as.map (argSV ρ)) b) : ∃ (j k : Nat), as[j]? = some (.io k) ∧ isOw ρ k ∧ σ[k]? = some (some (V.ref b)) ∧ vs[j]? = some (V.ref b) := by
  obtain ⟨j, ⟨io, ds, e⟩, e2⟩ := h
  obtain ⟨a, h1, h2⟩ := arg_at e
  obtain ⟨_, k, q, rfl, h3⟩ := arg_ow h2
  have e3 := arg_some e2
  obtain ⟨v, h4, h5⟩ := ok.at h1
  rw [e3] at h4
  cases h4
  exact ⟨j, k, h1, h5.1, h5.2, e3⟩
theorem args_in (ok : AvsOk M F σ ρ vs as) : argsIn (as.map (argSV ρ)) := fun i sv e => by
  obtain ⟨a, h1, h2⟩ := arg_at e
  subst h2
  cases a with
  | d d => exact .inl ⟨d, rfl⟩
  | io k =>
    obtain ⟨v, h4, h5⟩ := ok.at h1
    obtain ⟨⟨io, ds, e3⟩, _⟩ := h5
    refine .inr ⟨ds, ?_⟩
    show (match ρ[k]? with
      | some (.ow _ ds) => SV.ow true ds
      | _ => .no) = _
    rw [e3]
theorem args_sim (sm : Sim M F H σ ρ) (ok : AvsOk M F σ ρ vs as) (one : (iosOf 0 as).length ≤ 1) : Sim M F H (vs.map some) (as.map (argSV ρ)) := by
  refine ⟨sm.sub0, sm.tabs, by rw [List.length_map, List.length_map, ok.len], fun i d e => ?_, fun i io ds e => ?_, fun i j b o1 o2 e1 e2 => ?_⟩
  · obtain ⟨a, h1, h2⟩ := arg_at e
    have h2 := arg_im h2
    subst h2
    obtain ⟨v, h3, h4⟩ := ok.at h1
    exact ⟨v, some_arg h3, h4⟩
  · obtain ⟨a, h1, h2⟩ := arg_at e
    obtain ⟨e3, k, q, rfl, h3⟩ := arg_ow h2
    obtain ⟨v, h4, h5⟩ := ok.at h1
    obtain ⟨b, ws, g1, g2, g3, g4⟩ := sm.ow k q ds h3
    have h6 := h5.2
    rw [g1] at h6
    cases h6
    exact ⟨b, ws, some_arg h4, g2, g3, g4⟩
  · obtain ⟨io1, ds1, q1⟩ := o1
    obtain ⟨io2, ds2, q2⟩ := o2
    obtain ⟨a1, h1, h2⟩ := arg_at q1
    obtain ⟨a2, h3, h4⟩ := arg_at q2
    obtain ⟨_, k1, _, rfl, _⟩ := arg_ow h2
    obtain ⟨_, k2, _, rfl, _⟩ := arg_ow h4
    have m1 := iosOf_mem (n := 0) h1
    have m2 := iosOf_mem (n := 0) h3
    match el : iosOf 0 as, one with
    | [], _ =>
      rw [el] at m1
      cases m1
    | [p], _ =>
      rw [el] at m1 m2
      have e3 := List.mem_singleton.mp m1
      have e4 := List.mem_singleton.mp m2
      rw [← e4] at e3
      have := congrArg Prod.fst e3
      simpa using this
    | _ :: _ :: _, z => simp at z
theorem nb_ok {r : RV} {v : V} {svs : SE} (nb : notBo r = true) (ok : RvOk M H1 F2 H2 (vs.map some) svs v r) (fr : ∀ a, Own σ ρ1 a → ∃ o, H1 a = some o ∧ ∀ ps, o ≠ .tbl ps) : RvOk M H1 F2 H2 σ ρ1 v r := by
  cases r with
  | im d => exact ok
  | ow ds =>
    obtain ⟨a, ws, e, h1, h2, h3, h4, h5⟩ := ok
    refine ⟨a, ws, e, h1, h2, h3, fun z => ?_, h5⟩
    obtain ⟨o, ho, hn⟩ := fr a z
    exact h5.no ho hn
  | bo i => cases nb
/-- no argument is changed -/
theorem call_none {svs : SE} (ok : AvsOk M F1 σ ρ vs as) (sm : Sim M F1 H1 σ ρ) (e : iosOf 0 as = []) (st : Stp F1 H1 (vs.map some) (as.map (argSV ρ)) F2 H2 (vs.map some) svs) (sm2 : Sim M F2 H2 (vs.map some) svs) : Stp F1 H1 σ ρ F2 H2 σ ρ ∧ Sim M F2 H2 σ ρ := by
  have no : ∀ b, ¬ Own (vs.map some) (as.map (argSV ρ)) b := fun b z => by
    obtain ⟨j, k, h1, _⟩ := own_arg ok z
    have h2 := iosOf_mem (n := 0) h1
    rw [e] at h2
    cases h2
  refine ⟨⟨st.same, fun b o h _ nt => st.keep b o h (no b) nt, fun b z => .inl z, fun b o z => (st.newF b o z).elim .inl fun z => z.elim (fun z => (no b z).elim) fun z => .inr (.inr z), st.dom, fun _ ds z => ⟨rfl, ds, z⟩, fun _ ds z => ⟨ds, z⟩⟩,
    ⟨sm2.sub0, sm2.tabs, sm.len, fun i d z => ?_, fun i io ds z => ?_, sm.inj⟩⟩
  · obtain ⟨v, e1, r⟩ := sm.im i d z
    exact ⟨v, e1, r.up st.same⟩
  · obtain ⟨a, ws, e1, h1, h2, r⟩ := sm.ow i io ds z
    refine ⟨a, ws, e1, st.keep _ _ h1 (no a) r.nt, ?_, r.up st.same⟩
    cases e2 : F2 a with
    | none => rfl
    | some o =>
      rcases st.newF a o e2 with z | z | z
      · rw [h2] at z
        cases z
      · exact (no a z).elim
      · exact (z.no h1 r.nt).elim
/-- one is -/
theorem call_one {svs : SE} {j i : Nat} {ρ2 : SE} (ok : AvsOk M F1 σ ρ vs as) (sm : Sim M F1 H1 σ ρ) (e : iosOf 0 as = [(j, i)]) (hb : backIo ρ j i svs = some ρ2) (st : Stp F1 H1 (vs.map some) (as.map (argSV ρ)) F2 H2 (vs.map some) svs) (sm2 : Sim M F2 H2 (vs.map some) svs) :
    Stp F1 H1 σ ρ F2 H2 σ ρ2 ∧ Sim M F2 H2 σ ρ2 ∧ ∀ a, Own σ ρ2 a → Own σ ρ a := by
  have hj : as[j]? = some (.io i) := by
    obtain ⟨l, e1, h1⟩ := iosOf_at (as := as) (n := 0) (j := j) (k := i) (by rw [e]; exact List.mem_cons_self)
    rw [show j = l by omega]
    exact h1
  obtain ⟨v, h4, h5⟩ := ok.at hj
  unfold backIo at hb
  split at hb
  · rename_i es io ds0 hs hi
    cases hb
    obtain ⟨x, vs0, e1, g1, g2, g3⟩ := sm.ow i io ds0 hi
    obtain ⟨y, ws, e2, k1, k2, k3⟩ := sm2.ow j true es hs
    have h6 := h5.2
    rw [e1] at h6
    cases h6
    have h7 := arg_some e2
    rw [h4] at h7
    cases h7
    have only : ∀ b, Own (vs.map some) (as.map (argSV ρ)) b → b = x := fun b z => by
      obtain ⟨l, k, q1, q2, q3, q4⟩ := own_arg ok z
      have q5 := iosOf_mem (n := 0) q1
      rw [e] at q5
      have q6 := List.mem_singleton.mp q5
      cases q6
      rw [e1] at q3
      cases q3
      rfl
    have hown : Own σ ρ x := ⟨i, ⟨io, ds0, hi⟩, e1⟩
    have lt : i < ρ.length := (List.getElem?_eq_some_iff.mp hi).1
    have back : ∀ l, isOw (ρ.set i (.ow io es)) l → isOw ρ l := fun l ⟨q, d, z⟩ => by
      by_cases hl : l = i
      · subst hl
        exact ⟨io, ds0, hi⟩
      · rw [set_ne hl] at z
        exact ⟨q, d, z⟩
    have bown : ∀ a, Own σ (ρ.set i (.ow io es)) a → Own σ ρ a := fun a ⟨l, o, z⟩ => ⟨l, back l o, z⟩
    refine ⟨⟨st.same, fun b o h n nt => st.keep b o h (fun z => n ((only b z).symm ▸ hown)) nt, fun b z => .inl (bown b z), fun b o z => (st.newF b o z).elim .inl fun z => z.elim (fun z => .inr (.inl ((only b z).symm ▸ hown))) fun z => .inr (.inr z), st.dom, fun l ds z => ⟨rfl, ?_⟩, fun l ds z => ?_⟩,
      ⟨sm2.sub0, sm2.tabs, by rw [List.length_set]; exact sm.len, fun l d z => ?_, fun l q ds z => ?_, fun l k b o1 o2 => sm.inj l k b (back l o1) (back k o2)⟩, bown⟩
    · by_cases hl : l = i
      · subst hl
        rw [hi] at z
        cases z
        exact ⟨es, by rw [List.getElem?_set_self lt]⟩
      · exact ⟨ds, by rw [set_ne hl]; exact z⟩
    · by_cases hl : l = i
      · subst hl
        have z := (set_eq z).symm
        cases z
        exact ⟨ds0, hi⟩
      · rw [set_ne hl] at z
        exact ⟨ds, z⟩
    · by_cases hl : l = i
      · subst hl
        cases set_eq z
      · rw [set_ne hl] at z
        obtain ⟨v, e1, r⟩ := sm.im l d z
        exact ⟨v, e1, r.up st.same⟩
    · by_cases hl : l = i
      · subst hl
        have z := (set_eq z).symm
        cases z
        exact ⟨x, ws, e1, k1, k2, k3⟩
      · rw [set_ne hl] at z
        obtain ⟨a, us, q1, q2, q3, q4⟩ := sm.ow l q ds z
        have na : ¬ Own (vs.map some) (as.map (argSV ρ)) a := fun y => by
          have := only a y
          subst this
          exact hl (sm.inj l i a ⟨q, ds, z⟩ ⟨io, ds0, hi⟩ q1 e1)
        refine ⟨a, us, q1, st.keep _ _ q2 na q4.nt, ?_, q4.up st.same⟩
        cases e2 : F2 a with
        | none => rfl
        | some o =>
          rcases st.newF a o e2 with z | z | z
          · rw [q3] at z
            cases z
          · exact (na z).elim
          · exact (z.no q2 q4.nt).elim
  · cases hb
theorem own_has (sm : Sim M F1 H1 σ ρ) {a : Addr} (h : Own σ ρ a) : ∃ o, H1 a = some o ∧ ∀ ps, o ≠ .tbl ps := by
  exact (sm.ownF h).2
/-- the callee's promise is asked -/
theorem call_sp {m : SE → R RV} {n : Nat} {Q : VK} (ok : AvsOk M F1 σ ρ vs as) (sm : Sim M F1 H1 σ ρ) (hn : vs.length = n) (h : Post M W σ ρ F1 H1 (callR m as ρ) Q) : spD M n m vs H1 Q (fun cls d H' => W cls d σ H') := by
  unfold callR at h
  split at h
  · rename_i e0
    refine ⟨F1, _, hn, args_in ok, args_sim sm ok (by rw [e0]; simp), ?_⟩
    cases e : m (as.map (argSV ρ)) with
    | bad =>
      rw [e] at h
      exact h.elim
    | ok r svs =>
      rw [e] at h
      intro F2 H2 v st2 sm2 ok2
      obtain ⟨st3, sm3⟩ := call_none ok sm e0 st2 sm2
      have h : Post M W σ ρ F1 H1 (if notBo r = true then .ok r ρ else .bad) Q := h
      by_cases nb : notBo r = true
      · rw [if_pos nb] at h
        exact h F2 H2 v st3 sm3 (nb_ok nb ok2 fun a z => own_has sm z)
      · rw [if_neg nb] at h
        exact h.elim
    | ex x svs =>
      rw [e] at h
      intro F2 H2 cls d st2 sm2 ok2
      obtain ⟨st3, sm3⟩ := call_none ok sm e0 st2 sm2
      exact h F2 H2 cls d st3 sm3 ok2
  · rename_i j i e0
    refine ⟨F1, _, hn, args_in ok, args_sim sm ok (by rw [e0]; simp), ?_⟩
    cases e : m (as.map (argSV ρ)) with
    | bad =>
      rw [e] at h
      exact h.elim
    | ok r svs =>
      rw [e] at h
      intro F2 H2 v st2 sm2 ok2
      have h : Post M W σ ρ F1 H1 (if notBo r = true then (match backIo ρ j i svs with
        | some ρ2 => .ok r ρ2
        | none => .bad) else .bad) Q := h
      by_cases nb : notBo r = true
      · rw [if_pos nb] at h
        cases eb : backIo ρ j i svs with
        | none =>
          rw [eb] at h
          exact h.elim
        | some ρ2 =>
          rw [eb] at h
          obtain ⟨st3, sm3, bo⟩ := call_one ok sm e0 eb st2 sm2
          exact h F2 H2 v st3 sm3 (nb_ok nb ok2 fun a z => own_has sm (bo a z))
      · rw [if_neg nb] at h
        exact h.elim
    | ex x svs =>
      rw [e] at h
      intro F2 H2 cls d st2 sm2 ok2
      have h : Post M W σ ρ F1 H1 (match backIo ρ j i svs with
        | some ρ2 => .ex x ρ2
        | none => .bad) Q := h
      cases eb : backIo ρ j i svs with
      | none =>
        rw [eb] at h
        exact h.elim
      | some ρ2 =>
        rw [eb] at h
        obtain ⟨st3, sm3, bo⟩ := call_one ok sm e0 eb st2 sm2
        exact h F2 H2 cls d st3 sm3 ok2
  · exact h.elim
theorem AvsOk.app : ∀ {vs ws : List V} {as : List AV} {ds : List D}, AvsOk M F σ ρ vs as → Reps M F ws ds → AvsOk M F σ ρ (vs ++ ws) (as ++ ds.map AV.d)
  | _, _, _, _, .nil, .nil => .nil
  | _, _, _, _, .nil, .cons r t => .cons r (AvsOk.app (vs := []) (as := []) .nil t)
  | _, _, _, _, .cons h t, r => .cons h (AvsOk.app t r)
variable {k n : Nat} {f : Addr} {fd : FuncData} {ps : List Str} {m : SE → R RV} {x : Str} {p pos : Pos} {a : Expr} {es : List Expr} {ms : DM (List AV)} {dvs : List V} {dus : List Value} {dds : List D}
theorem q_call {t : TA} (qa : ∀ σ H F ρ Q, Sim M F H σ ρ → PostA M W σ ρ F H (ms ρ) Q → t σ H Q) (hr : ∀ F, Reps M F dvs dds) : ∀ σ H F ρ Q, Sim M F H σ ρ → Post M W σ ρ F H (dCall n dds m ms ρ) Q → tCallSD (spD M n m) dvs (fun σ cls d H' => W cls d σ H') t σ H Q := fun σ H F ρ Q sm h => by
  refine qa σ H F ρ _ sm (PostA.goE h fun as ρ1 F1 H1 vs e st1 sm1 ok1 h1 => ?_)
  by_cases hn : (as ++ dds.map AV.d).length = n
  · rw [if_pos hn] at h1
    have ok2 := ok1.app (hr F1)
    exact call_sp ok2 sm1 (by rw [ok2.len]; exact hn) (Post.from st1 h1)
  · rw [if_neg hn] at h1
    exact h1.elim
/-- f(e, ..) -/
theorem de_callD (G : FnOk X.prog X.w X.K X.mg X.base (L2.CX X.prog X.w) k f fd ps (spD M n m)) (hr : Room k X.A) (hm : X.mg x = some (.ref f)) (hk : PySem.W.keepIn X.K (.ref f) = true) (hb : Binds X.K fd ps dus) (hd : Vals dvs dus) (hds : ∀ F, Reps M F dvs dds) (tk : Takes X W) (ha : DA X M W (a :: es) ms) (hg : Gl X x := by rfl)
    (hdb : (x == ("__debug__" : Str)) = false := by decide) (he : starEach (a :: es) X.env = (false, eval a X.env) :: starEach es X.env := by rfl) (hpl : (backTo pos (starEach es X.env)).any (·.1) = false := by rfl) :
    DE X M W (.Call (.Name x p) (a :: es) [] pos) (dCall n dds m ms) := by
  obtain ⟨t, pa, qa⟩ := ha
  exact ⟨_, pe_callSD G hr hg hm hk hb hd (E := fun σ cls d H' => W cls d σ H') (fun σ => passAt tk σ) pa hdb he hpl, q_call qa hds⟩
theorem de_call (G : FnOk X.prog X.w X.K X.mg X.base (L2.CX X.prog X.w) k f fd ps (spD M n m)) (hr : Room k X.A) (hm : X.mg x = some (.ref f)) (hk : PySem.W.keepIn X.K (.ref f) = true) (hb : Binds X.K fd ps []) (tk : Takes X W) (ha : DA X M W (a :: es) ms) (hg : Gl X x := by rfl)
    (hdb : (x == ("__debug__" : Str)) = false := by decide) (he : starEach (a :: es) X.env = (false, eval a X.env) :: starEach es X.env := by rfl) (hpl : (backTo pos (starEach es X.env)).any (·.1) = false := by rfl) :
    DE X M W (.Call (.Name x p) (a :: es) [] pos) (dCall n [] m ms) := de_callD G hr hm hk hb .nil (fun _ => .nil) tk ha hg hdb he hpl

/-! ### a def of the text -/
def out1 (sv sw : SV) : SV := match sv, sw with
  | .ow true _, .ow true es => .ow true es
  | sv, _ => sv
def outs : SE → SE → SE
  | [], _ => []
  | sv :: r, [] => sv :: r
  | sv :: r, sw :: r' => out1 sv sw :: outs r r'
def mRet (svs : SE) (f : Fl) (ρ : SE) : R RV := match f with
  | .nx => .ok (.im .non) (outs svs ρ)
  | .rt (.im d) => .ok (.im d) (outs svs ρ)
  | .rt (.ow ds) => .ok (.ow ds) (outs svs ρ)
  | .rt (.bo i) => match ρ[i]? with
    | some (.ow false ds) => .ok (.ow ds) (outs svs ρ)
    | _ => .bad
  | _ => .bad
/-- what a def gives, by its body; nN: the number of its names -/
def mFn (nN : Nat) (mb : DM Fl) (svs : SE) : R RV := match mb (svs ++ List.replicate (nN - svs.length) .no) with
  | .bad => .bad
  | .ok f ρ => mRet svs f ρ
  | .ex e ρ => .ex e (outs svs ρ)
theorem outs_io : ∀ {svs ρ : SE} {i : Nat} {ds es : OC}, svs[i]? = some (.ow true ds) → ρ[i]? = some (.ow true es) → (outs svs ρ)[i]? = some (.ow true es)
  | [], _, _, _, _, h, _ => by simp at h
  | sv :: r, [], _, _, _, _, h => by simp at h
  | sv :: r, sw :: r', 0, ds, es, h1, h2 => by
    simp at h1 h2
    subst h1 h2
    rfl
  | sv :: r, sw :: r', i + 1, ds, es, h1, h2 => by
    have ih := outs_io (svs := r) (ρ := r') (i := i) (by simpa using h1) (by simpa using h2)
    show (out1 sv sw :: outs r r')[i + 1]? = _
    simpa using ih
theorem outs_im : ∀ {svs ρ : SE} {i : Nat} {d : D}, svs[i]? = some (.im d) → (outs svs ρ)[i]? = some (.im d)
  | [], _, _, _, h => by simp at h
  | sv :: r, [], i, d, h => h
  | sv :: r, sw :: r', 0, d, h1 => by
    simp at h1
    subst h1
    rfl
  | sv :: r, sw :: r', i + 1, d, h1 => by
    have ih := outs_im (svs := r) (ρ := r') (i := i) (by simpa using h1)
    show (out1 sv sw :: outs r r')[i + 1]? = _
    simpa using ih
theorem outs_len : ∀ svs ρ : SE, (outs svs ρ).length = svs.length
  | [], [] => rfl
  | [], _ :: _ => rfl
  | sv :: r, [] => rfl
  | sv :: r, sw :: r' => congrArg (· + 1) (outs_len r r')
theorem start_lo {N : List Str} {vs : List V} {i : Nat} (h : i < vs.length) : (L2.start N vs)[i]? = (vs.map some)[i]? := by
  unfold L2.start
  rw [List.getElem?_append_left (by simpa using h)]
theorem pad_lo {svs : SE} {n i : Nat} (h : i < svs.length) : (svs ++ List.replicate n SV.no)[i]? = svs[i]? := List.getElem?_append_left h
theorem pad_at {svs : SE} {n i : Nat} {sv : SV} (h : (svs ++ List.replicate n SV.no)[i]? = some sv) (hne : sv ≠ .no) : i < svs.length ∧ svs[i]? = some sv := by
  by_cases hi : i < svs.length
  · rw [pad_lo hi] at h
    exact ⟨hi, h⟩
  · rw [List.getElem?_append_right (by omega), List.getElem?_replicate] at h
    split at h
    · cases h
      exact (hne rfl).elim
    · cases h
section
variable {N : List Str} {svs : SE} {σ' : L2.St} {ρ' : SE}
theorem start_sim (sm : Sim M F H (vs.map some) svs) (hN : vs.length ≤ N.length) : Sim M F H (L2.start N vs) (svs ++ List.replicate (N.length - svs.length) .no) := by
  have hl : vs.length = svs.length := by simpa using sm.len
  have tr : ∀ {i : Nat} {sv : SV}, (svs ++ List.replicate (N.length - svs.length) SV.no)[i]? = some sv → sv ≠ .no → svs[i]? = some sv ∧ (L2.start N vs)[i]? = (vs.map some)[i]? := fun {i sv} h hne => by
    obtain ⟨h1, h2⟩ := pad_at h hne
    exact ⟨h2, start_lo (by omega)⟩
  refine ⟨sm.sub0, sm.tabs, ?_, fun i d e => ?_, fun i io ds e => ?_, fun i j a o1 o2 e1 e2 => ?_⟩
  · unfold L2.start
    simp only [List.length_append, List.length_map, List.length_replicate]
    omega
  · obtain ⟨h1, h2⟩ := tr e (by simp)
    rw [h2]
    exact sm.im i d h1
  · obtain ⟨h1, h2⟩ := tr e (by simp)
    rw [h2]
    exact sm.ow i io ds h1
  · obtain ⟨io1, ds1, q1⟩ := o1
    obtain ⟨io2, ds2, q2⟩ := o2
    obtain ⟨h1, h2⟩ := tr q1 (by simp)
    obtain ⟨h3, h4⟩ := tr q2 (by simp)
    rw [h2] at e1
    rw [h4] at e2
    exact sm.inj i j a ⟨_, _, h1⟩ ⟨_, _, h3⟩ e1 e2
/-- the end of the body, told to the caller -/
theorem end_sim (ai : argsIn svs) (sm0 : Sim M F H (vs.map some) svs) (st : Stp F H (L2.start N vs) (svs ++ List.replicate (N.length - svs.length) .no) F' H' σ' ρ') (sm : Sim M F' H' σ' ρ') :
    Stp F H (vs.map some) svs F' H' (vs.map some) (outs svs ρ') ∧ Sim M F' H' (vs.map some) (outs svs ρ') ∧ (∀ b, Own (vs.map some) (outs svs ρ') b → ∃ (i : Nat) (ds : OC), ρ'[i]? = some (.ow true ds) ∧ σ'[i]? = some (some (V.ref b))) ∧
      ∀ b, Own (L2.start N vs) (svs ++ List.replicate (N.length - svs.length) .no) b → ∃ (i : Nat) (ds : OC), ρ'[i]? = some (.ow true ds) ∧ σ'[i]? = some (some (V.ref b)) := by
  have hl : vs.length = svs.length := by simpa using sm0.len
  have own0 : ∀ b, Own (L2.start N vs) (svs ++ List.replicate (N.length - svs.length) .no) b → ∃ (i : Nat) (ds : OC), svs[i]? = some (.ow true ds) ∧ (vs.map some)[i]? = some (some (V.ref b)) ∧ i < svs.length := fun b ⟨i, ⟨io, ds, e⟩, e2⟩ => by
    obtain ⟨h1, h2⟩ := pad_at e (by simp)
    rw [start_lo (by omega)] at e2
    rcases ai i _ h2 with ⟨d, z⟩ | ⟨ds', z⟩
    · cases z
    · cases z
      exact ⟨i, ds, h2, e2, h1⟩
  have toOwn : ∀ b, Own (L2.start N vs) (svs ++ List.replicate (N.length - svs.length) .no) b → Own (vs.map some) svs b := fun b z => by
    obtain ⟨i, ds, h1, h2, _⟩ := own0 b z
    exact ⟨i, ⟨true, ds, h1⟩, h2⟩
  have fromOwn : ∀ b, Own (vs.map some) svs b → Own (L2.start N vs) (svs ++ List.replicate (N.length - svs.length) .no) b := fun b ⟨i, ⟨io, ds, e⟩, e2⟩ => by
    have hi : i < svs.length := (List.getElem?_eq_some_iff.mp e).1
    exact ⟨i, ⟨io, ds, by rw [pad_lo hi]; exact e⟩, by rw [start_lo (by omega)]; exact e2⟩
  have io : ∀ {i : Nat} {ds : OC}, svs[i]? = some (.ow true ds) → σ'[i]? = (vs.map some)[i]? ∧ ∃ ds', ρ'[i]? = some (.ow true ds') := fun {i ds} h => by
    have hi : i < svs.length := (List.getElem?_eq_some_iff.mp h).1
    obtain ⟨e1, e2⟩ := st.io i ds (by rw [pad_lo hi]; exact h)
    rw [start_lo (by omega)] at e1
    exact ⟨e1, e2⟩
  -- a slot of the out list
  have oat : ∀ {i : Nat} {sv : SV}, (outs svs ρ')[i]? = some sv → (∃ d, sv = .im d ∧ svs[i]? = some (.im d)) ∨ ∃ ds ds', sv = .ow true ds' ∧ svs[i]? = some (.ow true ds) ∧ ρ'[i]? = some (.ow true ds') := fun {i sv} h => by
    have hi : i < svs.length := by
      rw [← outs_len svs ρ']
      exact (List.getElem?_eq_some_iff.mp h).1
    rcases ai i _ (List.getElem?_eq_getElem hi) with ⟨d, e⟩ | ⟨ds, e⟩
    · have e2 : svs[i]? = some (.im d) := by rw [List.getElem?_eq_getElem hi, e]
      rw [outs_im e2] at h
      cases h
      exact .inl ⟨d, rfl, e2⟩
    · have e2 : svs[i]? = some (.ow true ds) := by rw [List.getElem?_eq_getElem hi, e]
      obtain ⟨_, ds', e3⟩ := io e2
      rw [outs_io e2 e3] at h
      cases h
      exact .inr ⟨ds, ds', rfl, e2, e3⟩
  have oown : ∀ b, Own (vs.map some) (outs svs ρ') b → ∃ (i : Nat) (ds ds' : OC), svs[i]? = some (.ow true ds) ∧ ρ'[i]? = some (.ow true ds') ∧ (vs.map some)[i]? = some (some (V.ref b)) := fun b ⟨i, ⟨q, ds, e⟩, e2⟩ => by
    rcases oat e with ⟨d, z, _⟩ | ⟨ds1, ds2, z, h1, h2⟩
    · cases z
    · exact ⟨i, ds1, ds2, h1, h2, e2⟩
  have back : ∀ b, Own (vs.map some) (outs svs ρ') b → Own (vs.map some) svs b := fun b z => by
    obtain ⟨i, ds, _, h1, _, h2⟩ := oown b z
    exact ⟨i, ⟨true, ds, h1⟩, h2⟩
  refine ⟨⟨st.same, fun b o h n nt => st.keep b o h (fun z => n (toOwn b z)) nt, fun b z => .inl (back b z), fun b o z => (st.newF b o z).elim .inl fun z => z.elim (fun z => .inr (.inl (toOwn b z))) fun z => .inr (.inr z), st.dom, fun i ds h => ?_, fun i ds h => ?_⟩,
    ⟨sm.sub0, sm.tabs, by rw [outs_len]; exact sm0.len, fun i d h => ?_, fun i q ds h => ?_, fun i j a o1 o2 e1 e2 => ?_⟩, fun b z => ?_, fun b z => ?_⟩
  · obtain ⟨_, ds', e2⟩ := io h
    exact ⟨rfl, ds', outs_io h e2⟩
  · rcases oat h with ⟨d, z, _⟩ | ⟨ds1, ds2, z, h1, h2⟩
    · cases z
    · exact ⟨ds1, h1⟩
  · rcases oat h with ⟨d', z, h1⟩ | ⟨ds1, ds2, z, h1, h2⟩
    · cases z
      obtain ⟨v, e, r⟩ := sm0.im i d h1
      exact ⟨v, e, r.up st.same⟩
    · cases z
  · rcases oat h with ⟨d', z, h1⟩ | ⟨ds1, ds2, z, h1, h2⟩
    · cases z
    · cases z
      obtain ⟨e1, _⟩ := io h1
      obtain ⟨a, ws, g1, g2⟩ := sm.ow i true ds h2
      rw [e1] at g1
      exact ⟨a, ws, g1, g2⟩
  · obtain ⟨q1, d1, z1⟩ := o1
    obtain ⟨q2, d2, z2⟩ := o2
    rcases oat z1 with ⟨d', z, _⟩ | ⟨ds1, ds2, z, h1, h2⟩
    · cases z
    · rcases oat z2 with ⟨d', z, _⟩ | ⟨ds3, ds4, z, h3, h4⟩
      · cases z
      · exact sm0.inj i j a ⟨_, _, h1⟩ ⟨_, _, h3⟩ e1 e2
  · obtain ⟨i, ds, ds', h1, h2, h3⟩ := oown b z
    obtain ⟨e1, _⟩ := io h1
    exact ⟨i, ds', h2, by rw [e1]; exact h3⟩
  · obtain ⟨i, ds, h1, h2, _⟩ := own0 b z
    obtain ⟨e1, ds', e2⟩ := io h1
    exact ⟨i, ds', e2, by rw [e1]; exact h2⟩
end
end
/-- a def's body, and the promise -/
theorem fn_body {M : Mx} {X : Cx} {N ps : List Str} {body : List Stmt} {mb : DM Fl} {vs : List V} {H : Hp} {Q : VK} {E : XK} (hN : ps.length ≤ N.length) (hb : DSs X M (fun cls d _ H' => E cls d H') body mb) (h : spD M ps.length (mFn N.length mb) vs H Q E) :
    ∃ t, PSs X body t ∧ t { nx := fun _ H' => Q .non H', rt := Q } (L2.start N vs) H := by
  obtain ⟨F, svs, h1, ai, sm, hp⟩ := h
  obtain ⟨t, pt, qt⟩ := hb
  refine ⟨t, pt, qt _ H F _ _ (start_sim sm (by omega)) ?_⟩
  unfold mFn at hp
  cases e : mb (svs ++ List.replicate (N.length - svs.length) .no) with
  | bad =>
    rw [e] at hp
    exact hp.elim
  | ex x ρ' =>
    rw [e] at hp
    intro F' H' σ' cls d st' sm' ok'
    obtain ⟨st2, sm2, _⟩ := end_sim ai sm st' sm'
    exact hp F' H' cls d st2 sm2 ok'
  | ok fl ρ' =>
    rw [e] at hp
    have hp : Post M (fun cls d _ H' => E cls d H') (vs.map some) svs F H (mRet svs fl ρ') Q := hp
    cases fl with
    | nx =>
      intro F' H' σ' st' sm'
      obtain ⟨st2, sm2, _⟩ := end_sim ai sm st' sm'
      exact hp F' H' _ st2 sm2 Rep.non
    | bk => exact hp.elim
    | ct => exact hp.elim
    | rt r =>
      intro F' H' σ' v st' sm' ok'
      obtain ⟨st2, sm2, o1, o2⟩ := end_sim ai sm st' sm'
      cases r with
      | im d => exact hp F' H' v st2 sm2 ok'
      | ow ds =>
        obtain ⟨a, ws, e1, g1, g2, g3, g4, g5⟩ := ok'
        refine hp F' H' v st2 sm2 ⟨a, ws, e1, g1, g2, g3, fun z => g4 ?_, g5⟩
        obtain ⟨i, ds', q1, q2⟩ := o1 a z
        exact ⟨i, ⟨_, _, q1⟩, q2⟩
      | bo i =>
        have hp : Post M (fun cls d _ H' => E cls d H') (vs.map some) svs F H (match ρ'[i]? with
          | some (.ow false ds) => .ok (.ow ds) (outs svs ρ')
          | _ => .bad) Q := hp
        obtain ⟨_, hv⟩ := ok'
        split at hp
        · rename_i ds hi
          obtain ⟨a, ws, e1, g1, g2, g3⟩ := sm'.ow i false ds hi
          rw [hv] at e1
          cases e1
          have no : ∀ (l : Nat) (es : OC), ρ'[l]? = some (.ow true es) → σ'[l]? = some (some (V.ref a)) → False := fun l es q1 q2 => by
            have := sm'.inj l i a ⟨_, _, q1⟩ ⟨_, _, hi⟩ q2 hv
            subst this
            rw [hi] at q1
            cases q1
          refine hp F' H' _ st2 sm2 ⟨a, ws, rfl, g1, g2, g3, fun z => ?_, ?_⟩
          · obtain ⟨l, es, q1, q2⟩ := o1 a z
            exact no l es q1 q2
          · rcases st'.new a ⟨i, ⟨_, _, hi⟩, hv⟩ with z | z
            · obtain ⟨l, es, q1, q2⟩ := o2 a z
              exact (no l es q1 q2).elim
            · exact z
        · exact hp.elim
/-- THE RULE: a def keeps its promise -/
theorem fn_D {M : Mx} {P : Program} {w : World} {base : Heap} {x qual : Str} {st : Stmt} {f : Addr} {fd : FuncData} {N ps : List Str} {k : Nat} {mb : DM Fl} (Fu : Fun M.K x qual st f fd) (S : FnScope N ps (defScope st))
    (hb : ∀ (cdv : Value) (A : Around) (outer : List Env) (s : Shared) (H : Hp) (E : XK), Room k (A.deeper (envOfC qual (defScope st) s.heap.objs.size f cdv)) →
      DSs (cxOf (L2.CX P w) P w M.K M.mg base N qual (defScope st) f cdv A outer s H E) M (fun cls d _ H' => E cls d H') (defBody st) mb) :
    FnOk P w M.K M.mg base (L2.CX P w) (k + 1) f fd ps (spD M ps.length (mFn N.length mb)) := by
  have hN : ps.length ≤ N.length := by
    have := congrArg List.length S.pre
    rw [List.length_take] at this
    omega
  exact Fu.okX S (fun vs H Q E h => by
    obtain ⟨F, svs, h1, _⟩ := h
    exact h1) fun cdv A outer s H vs Q E hr h => fn_body hN (hb cdv A outer s H E hr) h
end DL

/- part -/
set_option Elab.async false
set_option linter.all false
set_option maxRecDepth 100000
set_option maxHeartbeats 4000000
namespace DL
open PySem PySem.Spec PyProof.Rows L2
section
variable {M : Mx} {W : WX} {X : Cx} {F H F' H' F1 H1 H0 : Hp} {σ : L2.St} {ρ ρ1 : SE}
variable {a b c e : Expr} {ma mb mc m : DM RV} {mt mu : DM Bool} {es : List Expr} {pos : Pos}
/-! ### arguments, looked at -/
inductive Vws (M : Mx) (F H : Hp) : List V → List D → Prop
  | nil : Vws M F H [] []
  | cons {v : V} {vs : List V} {d : D} {ds : List D} : Vw M F H v d → Vws M F H vs ds → Vws M F H (v :: vs) (d :: ds)
def PostV (M : Mx) (W : WX) (σ : L2.St) (ρ : SE) (F H : Hp) (r : R (List D)) (Q : List V → Hp → Prop) : Prop := match r with
  | .bad => False
  | .ok ds ρ' => ∀ F' H' vs, Stp F H σ ρ F' H' σ ρ' → Sim M F' H' σ ρ' → Vws M F' H' vs ds → Q vs H'
  | .ex e ρ' => ∀ F' H' cls d, Stp F H σ ρ F' H' σ ρ' → Sim M F' H' σ ρ' → ExcOk M F' H' cls d e → W cls d σ H'
def DV (X : Cx) (M : Mx) (W : WX) (es : List Expr) (m : DM (List D)) : Prop := ∃ t, PA X es t ∧ ∀ σ H F ρ Q, Sim M F H σ ρ → PostV M W σ ρ F H (m ρ) Q → t σ H Q
def vNil : DM (List D) := fun ρ => .ok [] ρ
def vCons (ma : DM RV) (ms : DM (List D)) : DM (List D) := fun ρ => (ma ρ).bind fun x ρ1 => (ms ρ1).bind fun ds ρ2 => match look ρ2 x with
  | some d => .ok (d :: ds) ρ2
  | none => .bad
variable {mv : DM (List D)}
theorem dv_nil : DV X M W [] vNil := ⟨_, pa_nil, fun σ H F ρ Q sm h => h F H [] (Stp.refl _ _ _ _) sm .nil⟩
theorem PostV.from {r : R (List D)} {Q : List V → Hp → Prop} (st : Stp F H σ ρ F1 H1 σ ρ1) (h : PostV M W σ ρ F H r Q) : PostV M W σ ρ1 F1 H1 r Q := by
  cases r with
  | bad => exact h
  | ok a ρ2 => exact fun F2 H2 v st2 sm ok => h F2 H2 v (st.trans st2) sm ok
  | ex e ρ2 => exact fun F2 H2 cls d st2 sm ok => h F2 H2 cls d (st.trans st2) sm ok
theorem dv_cons (ha : DE X M W a ma) (hs : DV X M W es mv) (hst : starEach (a :: es) X.env = (false, eval a X.env) :: starEach es X.env := by rfl) : DV X M W (a :: es) (vCons ma mv) := by
  obtain ⟨te, pa, qa⟩ := ha
  obtain ⟨t, ps, qs⟩ := hs
  refine ⟨_, pa_cons pa ps hst, fun σ H F ρ Q sm h => ?_⟩
  refine qa σ H F ρ _ sm ?_
  unfold vCons at h
  cases e : ma ρ with
  | bad =>
    rw [e] at h
    exact h
  | ex x ρ1 =>
    rw [e] at h
    exact h
  | ok x ρ1 =>
    rw [e] at h
    intro F1 H1 v st1 sm1 ok1
    refine qs σ H1 F1 ρ1 _ sm1 ?_
    have h : PostV M W σ ρ F H ((mv ρ1).bind fun ds ρ2 => match look ρ2 x with
      | some d => .ok (d :: ds) ρ2
      | none => .bad) Q := h
    cases e2 : mv ρ1 with
    | bad =>
      rw [e2] at h
      exact h
    | ex y ρ2 =>
      rw [e2] at h
      exact fun F2 H2 cls d st2 sm ok => h F2 H2 cls d (st1.trans st2) sm ok
    | ok ds ρ2 =>
      rw [e2] at h
      have h : PostV M W σ ρ F H (match look ρ2 x with
        | some d => .ok (d :: ds) ρ2
        | none => .bad) Q := h
      cases e3 : look ρ2 x with
      | none =>
        rw [e3] at h
        exact h.elim
      | some d =>
        rw [e3] at h
        exact fun F2 H2 vs st2 sm2 ok2 => h F2 H2 _ (st1.trans st2) sm2 (.cons (ok1.view st2 sm2 e3) ok2)
def CbOk (M : Mx) (r : List V → Hp → VK → Prop) (g : List D → Option RV) : Prop := ∀ (F H : Hp) (vs : List V) (ds : List D) (rv : RV) (Q : VK), SubF F H → Vws M F H vs ds → g ds = some rv → (∀ F' H' v, Alc F H F' H' → RvNew M H F' H' v rv → Q v H') → r vs H Q
def dCb (g : List D → Option RV) (mv : DM (List D)) : DM RV := fun ρ => (mv ρ).bind fun ds ρ1 => ofO (g ds) ρ1
theorem PostV.goE {r : R (List D)} {Q : VK} {g : List D → SE → R RV} (h : Post M W σ ρ F H (r.bind g) Q) {Q' : List V → Hp → Prop}
    (k : ∀ a ρ1 F1 H1 v, r = .ok a ρ1 → Stp F H σ ρ F1 H1 σ ρ1 → Sim M F1 H1 σ ρ1 → Vws M F1 H1 v a → Post M W σ ρ F H (g a ρ1) Q → Q' v H1) : PostV M W σ ρ F H r Q' := by
  cases r with
  | bad => exact h
  | ok a ρ1 => exact fun F1 H1 v st sm ok => k a ρ1 F1 H1 v rfl st sm ok h
  | ex e ρ1 => exact h
theorem q_cb {t : TA} {r : List V → Hp → VK → Prop} {g : List D → Option RV} (qa : ∀ σ H F ρ Q, Sim M F H σ ρ → PostV M W σ ρ F H (mv ρ) Q → t σ H Q) (o : CbOk M r g) : ∀ σ H F ρ Q, Sim M F H σ ρ → Post M W σ ρ F H (dCb g mv ρ) Q → tCB r t σ H Q := fun σ H F ρ Q sm h => by
  refine qa σ H F ρ _ sm (PostV.goE h fun ds ρ1 F1 H1 vs _ st1 sm1 ok1 h1 => ?_)
  obtain ⟨rv, e, k⟩ := Post.fin' h1 st1 sm1
  exact o F1 H1 vs ds rv Q sm1.sub ok1 e k
variable {r : List V → Hp → VK → Prop} {g : List D → Option RV} {x : Str} {p : Pos}
theorem de_cb {id : String} (hc : CallR X (.builtin id) r) (o : CbOk M r g) (hv : bootBuiltins x = some (.builtin id)) (ha : DV X M W (a :: es) mv) (hm : X.mg x = none) (hg : Gl X x := by rfl) (hn : x ≠ "__name__" := by decide) (hdb : (x == ("__debug__" : Str)) = false := by decide)
    (he : starEach (a :: es) X.env = (false, eval a X.env) :: starEach es X.env := by rfl) (hpl : (backTo pos (starEach es X.env)).any (·.1) = false := by rfl) : DE X M W (.Call (.Name x p) (a :: es) [] pos) (dCb g mv) := by
  obtain ⟨t, pa, qa⟩ := ha
  exact ⟨_, pe_callB hc hg hm hv pa hn hdb he hpl, q_cb qa o⟩
theorem de_cty {T : String} (hc : CallR X (.type T) r) (o : CbOk M r g) (hv : bootBuiltins x = some (.type T)) (ha : DV X M W (a :: es) mv) (hm : X.mg x = none) (hg : Gl X x := by rfl) (hn : x ≠ "__name__" := by decide) (hdb : (x == ("__debug__" : Str)) = false := by decide)
    (he : starEach (a :: es) X.env = (false, eval a X.env) :: starEach es X.env := by rfl) (hpl : (backTo pos (starEach es X.env)).any (·.1) = false := by rfl) : DE X M W (.Call (.Name x p) (a :: es) [] pos) (dCb g mv) := by
  obtain ⟨t, pa, qa⟩ := ha
  exact ⟨_, pe_callTy hc hg hm hv pa hn hdb he hpl, q_cb qa o⟩
theorem vws1 {vs : List V} {d : D} (h : Vws M F H vs [d]) : ∃ v, vs = [v] ∧ Vw M F H v d := by
  cases h with
  | cons h1 h2 =>
    cases h2
    exact ⟨_, rfl, h1⟩
theorem vws2 {vs : List V} {d d2 : D} (h : Vws M F H vs [d, d2]) : ∃ v w, vs = [v, w] ∧ Vw M F H v d ∧ Vw M F H w d2 := by
  cases h with
  | cons h1 h2 =>
    cases h2 with
    | cons h3 h4 =>
      cases h4
      exact ⟨_, _, rfl, h1, h3⟩
def gLen : List D → Option RV
  | [.lst ds] => some (.im (.int ds.length))
  | [.tup ds] => some (.im (.int ds.length))
  | [.scr ns] => some (.im (.int ns.length))
  | [.str x] => if x.length ≤ 1000000 then some (.im (.int x.length)) else none
  | _ => none
theorem cb_len : CbOk M (fun xs H Q => ∃ x n, xs = [x] ∧ LenV M.K x H n ∧ Q (.int n) H) gLen := by
  intro F H vs ds rv Q sub hv hg k
  unfold gLen at hg
  split at hg
  · cases hg
    obtain ⟨v, rfl, a, ws, e, h1, r⟩ := vws1 hv
    subst e
    refine ⟨_, _, rfl, .inl ⟨ws, .inl (.inl h1), rfl⟩, ?_⟩
    rw [r.length]
    exact k _ _ _ (Alc.refl sub) RvNew.int
  · cases hg
    obtain ⟨v, rfl, h⟩ := vws1 hv
    obtain ⟨a, ws, e, h1, r⟩ := vw_tup h
    subst e
    refine ⟨_, _, rfl, .inr ⟨ws, sub.sqT h1, rfl⟩, ?_⟩
    rw [r.length]
    exact k _ _ _ (Alc.refl sub) RvNew.int
  · rename_i ns
    cases hg
    obtain ⟨v, rfl, h⟩ := vws1 hv
    cases h with
    | scr h1 =>
      refine ⟨_, ns.length, rfl, .inl ⟨_, sub.sqL h1, (List.length_map _).symm⟩, k _ _ _ (Alc.refl sub) RvNew.int⟩
  · obtain ⟨hz, e⟩ := some_ite hg
    cases e
    obtain ⟨v, rfl, h⟩ := vws1 hv
    rw [vw_str h]
    exact ⟨_, _, rfl, ⟨szle hz, rfl⟩, k _ _ _ (Alc.refl sub) RvNew.int⟩
  · cases hg
theorem de_len (ha : DV X M W (a :: es) mv) (hm : X.mg "len" = none) (hg : Gl X "len" := by rfl) (hK : M.K = X.K := by rfl) (he : starEach (a :: es) X.env = (false, eval a X.env) :: starEach es X.env := by rfl) (hpl : (backTo pos (starEach es X.env)).any (·.1) = false := by rfl) : DE X M W (.Call (.Name "len" p) (a :: es) [] pos) (dCb gLen mv) :=
  de_cb call_len (hK ▸ cb_len) PySem.boot_len ha hm hg (by decide) (by decide) he hpl
def gAbs : List D → Option RV
  | [.int i] => some (.im (.int (if i < 0 then -i else i)))
  | _ => none
theorem cb_abs : CbOk M (fun xs H Q => ∃ i, xs = [.int i] ∧ Q (.int (if i < 0 then -i else i)) H) gAbs := by
  intro F H vs ds rv Q sub hv hg k
  unfold gAbs at hg
  split at hg
  · cases hg
    obtain ⟨v, rfl, h⟩ := vws1 hv
    rw [vw_int h]
    exact ⟨_, rfl, k _ _ _ (Alc.refl sub) RvNew.int⟩
  · cases hg
def gList : List D → Option RV
  | [.lst ds] => some (.ow (.ls ds))
  | [.tup ds] => some (.ow (.ls ds))
  | [.scr ns] => some (.ow (.ls (ns.map D.int)))
  | _ => none
theorem cb_list : CbOk M (fun xs H Q => ∃ p ys, xs = [.ref p] ∧ (SqL M.K H p ys ∨ SqT M.K H p ys) ∧ ∀ l, H l = none → Q (.ref l) (upd H l (.lst ys))) gList := by
  intro F H vs ds rv Q sub hv hg k
  unfold gList at hg
  split at hg
  · cases hg
    obtain ⟨v, rfl, a, ws, e, h1, r⟩ := vws1 hv
    subst e
    exact ⟨_, _, rfl, .inl (.inl (.inl h1)), fun l hl => new_lst sub r k hl⟩
  · cases hg
    obtain ⟨v, rfl, h⟩ := vws1 hv
    obtain ⟨a, ws, e, h1, r⟩ := vw_tup h
    subst e
    exact ⟨_, _, rfl, .inr (sub.sqT h1), fun l hl => new_lst sub r k hl⟩
  · rename_i ns
    cases hg
    obtain ⟨v, rfl, h⟩ := vws1 hv
    cases h with
    | scr h1 => exact ⟨_, _, rfl, .inl (sub.sqL h1), fun l hl => new_lst sub (Reps.ofInts ns) k hl⟩
  · cases hg
def gTuple : List D → Option RV
  | [.lst ds] => some (.im (.tup ds))
  | [.tup ds] => some (.im (.tup ds))
  | _ => none
theorem cb_tuple : CbOk M (fun xs H Q => ∃ p ys, xs = [.ref p] ∧ ((SqL M.K H p ys ∧ ∀ l, H l = none → Q (.ref l) (upd H l (.tup ys))) ∨ (SqT M.K H p ys ∧ Q (.ref p) H))) gTuple := by
  intro F H vs ds rv Q sub hv hg k
  unfold gTuple at hg
  split at hg
  · cases hg
    obtain ⟨v, rfl, a, ws, e, h1, r⟩ := vws1 hv
    subst e
    exact ⟨_, _, rfl, .inl ⟨.inl (.inl h1), fun l hl => new_tup sub r k hl⟩⟩
  · cases hg
    obtain ⟨v, rfl, h⟩ := vws1 hv
    have h' := h
    obtain ⟨a, ws, e, h1, r⟩ := vw_tup h
    subst e
    exact ⟨_, _, rfl, .inr ⟨sub.sqT h1, k _ _ _ (Alc.refl sub) h'⟩⟩
  · cases hg
def asBl : D → Option Bool
  | .bl b => some b
  | _ => none
def asBls : List D → Option (List Bool)
  | [] => some []
  | .bl b :: r => (asBls r).map (b :: ·)
  | _ :: _ => none
theorem asBls_ok : ∀ {ds : List D} {bs : List Bool} {vs : List V}, asBls ds = some bs → Reps M F vs ds → vs = bs.map V.bl
  | [], _, _, e, .nil => by
    cases e
    rfl
  | d :: ds, bs, _, e, .cons r t => by
    cases d <;> first
      | (have e : (asBls ds).map _ = some bs := e
         obtain ⟨bs', e1, e2⟩ := map_some e
         subst e2
         cases r
         rw [asBls_ok e1 t]
         rfl)
      | cases e
def gAll : List D → Option RV
  | [.lst ds] => (asBls ds).map fun bs => .im (.bl (bs.all id))
  | _ => none
theorem cb_all : CbOk M (rAll M.K) gAll := by
  intro F H vs ds rv Q sub hv hg k
  unfold gAll at hg
  split at hg
  · obtain ⟨bs, e1, e2⟩ := map_some hg
    subst e2
    obtain ⟨v, rfl, a, ws, e, h1, r⟩ := vws1 hv
    subst e
    have ew := asBls_ok e1 r
    subst ew
    exact ⟨a, bs, rfl, .inl (.inl h1), k _ _ _ (Alc.refl sub) RvNew.bl⟩
  · cases hg
def gAny : List D → Option RV
  | [.lst ds] => (asBls ds).map fun bs => .im (.bl (bs.any id))
  | _ => none
theorem cb_any : CbOk M (rAny M.K) gAny := by
  intro F H vs ds rv Q sub hv hg k
  unfold gAny at hg
  split at hg
  · obtain ⟨bs, e1, e2⟩ := map_some hg
    subst e2
    obtain ⟨v, rfl, a, ws, e, h1, r⟩ := vws1 hv
    subst e
    have ew := asBls_ok e1 r
    subst ew
    exact ⟨a, bs, rfl, .inl (.inl h1), k _ _ _ (Alc.refl sub) RvNew.bl⟩
  · cases hg
def gStr : List D → Option RV
  | [.int i] => if i.natAbs.log2 < 1920 then some (.im (.str (PySem.Str.ofString (toString i)))) else none
  | _ => none
theorem cb_str : CbOk M (fun xs H Q => ∃ i, xs = [.int i] ∧ i.natAbs.log2 < 1920 ∧ Q (.str (toString i)) H) gStr := by
  intro F H vs ds rv Q sub hv hg k
  unfold gStr at hg
  split at hg
  · obtain ⟨hz, e⟩ := some_ite hg
    cases e
    obtain ⟨v, rfl, h⟩ := vws1 hv
    rw [vw_int h]
    exact ⟨_, rfl, hz, k _ _ _ (Alc.refl sub) RvNew.str⟩
  · cases hg
def gInt : List D → Option RV
  | [.str x] => if x.length ≤ 640 then (PySem.intText? x).map fun n => .im (.int n) else none
  | _ => none
theorem cb_int : CbOk M (fun xs H Q => ∃ a n, xs = [.str a] ∧ PySem.intText? a = some n ∧ a.length ≤ 640 ∧ Q (.int n) H) gInt := by
  intro F H vs ds rv Q sub hv hg k
  unfold gInt at hg
  split at hg
  · split at hg
    · rename_i hz
      obtain ⟨n, e1, e2⟩ := map_some hg
      cases e2
      obtain ⟨v, rfl, h⟩ := vws1 hv
      rw [vw_str h]
      exact ⟨_, n, rfl, e1, hz, k _ _ _ (Alc.refl sub) RvNew.int⟩
    · cases hg
  · cases hg
/-! ### slices -/
def cutL {α : Type} (xs : List α) (lo hi : Option Int) : List α := (xs.drop (HT.sIx xs.length 0 lo)).take (HT.sIx xs.length xs.length hi - HT.sIx xs.length 0 lo)
theorem cut_rep {vs : List V} {ds : List D} (r : Reps M F vs ds) (lo hi : Option Int) : Reps M F (cutV vs lo hi) (cutL ds lo hi) := by
  unfold cutV cutL
  rw [r.length]
  exact (r.drop _).take _
def PostP (M : Mx) (W : WX) (σ : L2.St) (ρ : SE) (F H : Hp) (r : R (Option Int)) (Q : Option Int → Hp → Prop) : Prop := match r with
  | .bad => False
  | .ok i ρ' => ∀ F' H', Stp F H σ ρ F' H' σ ρ' → Sim M F' H' σ ρ' → Q i H'
  | .ex e ρ' => ∀ F' H' cls d, Stp F H σ ρ F' H' σ ρ' → Sim M F' H' σ ρ' → ExcOk M F' H' cls d e → W cls d σ H'
def DO (X : Cx) (M : Mx) (W : WX) (e : Option Expr) (m : DM (Option Int)) : Prop := ∃ t, PO X e t ∧ ∀ σ H F ρ Q, Sim M F H σ ρ → PostP M W σ ρ F H (m ρ) Q → t σ H Q
def oNone : DM (Option Int) := fun ρ => .ok none ρ
def asPart (r : RV) (ρ : SE) : R (Option Int) := match r with
  | .im (.int i) => .ok (some i) ρ
  | _ => .bad
def oSome (m : DM RV) : DM (Option Int) := fun ρ => (m ρ).bind asPart
theorem do_none : DO X M W none oNone := ⟨_, po_none, fun σ H F ρ Q sm h => h F H (Stp.refl _ _ _ _) sm⟩
theorem do_some (he : DE X M W e m) : DO X M W (some e) (oSome m) := by
  obtain ⟨t, p, q⟩ := he
  refine ⟨_, po_some p, fun σ H F ρ Q sm h => q σ H F ρ _ sm ?_⟩
  unfold oSome at h
  cases e1 : m ρ with
  | bad =>
    rw [e1] at h
    exact h
  | ex x ρ1 =>
    rw [e1] at h
    exact h
  | ok r ρ1 =>
    rw [e1] at h
    intro F1 H1 v st1 sm1 ok1
    cases r with
    | im d =>
      cases d with
      | int i =>
        cases ok1
        exact ⟨i, rfl, h F1 H1 st1 sm1⟩
      | _ => exact h.elim
    | _ => exact h.elim
def slD (d : D) (lo hi : Option Int) : Option RV := match d with
  | .lst ds => some (.ow (.ls (cutL ds lo hi)))
  | .tup ds => some (.im (.tup (cutL ds lo hi)))
  | .scr ns => some (.ow (.ls ((cutL ns lo hi).map D.int)))
  | .str z => if z.length ≤ 1000000 then some (.im (.str (cutS z lo hi))) else none
  | _ => none
abbrev rSlAll (K : PySem.W.Frag) : V → Option Int → Option Int → Hp → VK → Prop := fun x lo hi H Q => rSlL K x lo hi H Q ∨ (rSlA K x lo hi H Q ∨ rSlS x lo hi H Q)
theorem sl_all : SlR X (rSlAll X.K) := sl_list.or (sl_tupA.or sl_str)
theorem cut_whole {α : Type} {xs : List α} {lo hi : Option Int} (h1 : HT.sIx xs.length 0 lo = 0) (h2 : HT.sIx xs.length xs.length hi = xs.length) : cutL xs lo hi = xs := by
  unfold cutL
  rw [h1, h2]
  simp
theorem cutV_map {ns : List Int} {lo hi : Option Int} : cutV (ns.map V.int) lo hi = (cutL ns lo hi).map V.int := by
  unfold cutV cutL
  rw [List.length_map, List.map_take, List.map_drop]
theorem sl_ok (sub : SubF F H) {x : V} {d : D} {lo hi : Option Int} {rv : RV} {Q : VK} (hx : Vw M F H x d) (hg : slD d lo hi = some rv) (k : ∀ F' H' v, Alc F H F' H' → RvNew M H F' H' v rv → Q v H') : rSlAll M.K x lo hi H Q := by
  unfold slD at hg
  split at hg
  · cases hg
    obtain ⟨a, vs, e, h1, r⟩ := hx
    exact .inl ⟨a, vs, e, .inl (.inl h1), fun p hp => new_lst sub (cut_rep r lo hi) k hp⟩
  · cases hg
    have hx' := hx
    obtain ⟨a, vs, e, h1, r⟩ := vw_tup hx
    subst e
    refine .inr (.inl ⟨a, vs, rfl, sub.sqT h1, fun ⟨z1, z2⟩ => ?_, fun _ p hp => new_tup sub (cut_rep r lo hi) k hp⟩)
    rw [r.length] at z1 z2
    refine k _ _ _ (Alc.refl sub) ?_
    rw [cut_whole z1 z2]
    exact hx'
  · rename_i ns
    cases hg
    cases hx with
    | scr h1 =>
      refine .inl ⟨_, _, rfl, sub.sqL h1, fun p hp => ?_⟩
      rw [cutV_map]
      exact new_lst sub (Reps.ofInts _) k hp
  · obtain ⟨hz, e⟩ := some_ite hg
    cases e
    exact .inr (.inr ⟨_, vw_str hx, szle hz, k _ _ _ (Alc.refl sub) RvNew.str⟩)
  · cases hg
def dSl (ma : DM RV) (ml mh : DM (Option Int)) : DM RV := fun ρ => (ma ρ).bind fun x ρ1 => (ml ρ1).bind fun l ρ2 => (mh ρ2).bind fun u ρ3 => ofO ((look ρ3 x).bind fun d => slD d l u) ρ3
theorem PostP.goE {r : R (Option Int)} {Q : VK} {g : Option Int → SE → R RV} (h : Post M W σ ρ F H (r.bind g) Q) {Q' : Option Int → Hp → Prop}
    (k : ∀ a ρ1 F1 H1, Stp F H σ ρ F1 H1 σ ρ1 → Sim M F1 H1 σ ρ1 → Post M W σ ρ F H (g a ρ1) Q → Q' a H1) : PostP M W σ ρ F H r Q' := by
  cases r with
  | bad => exact h
  | ok a ρ1 => exact fun F1 H1 st sm => k a ρ1 F1 H1 st sm h
  | ex e ρ1 => exact h
theorem de_sl {lo hi : Option Expr} {ml mh : DM (Option Int)} {p2 : Pos} (ha : DE X M W a ma) (hl : DO X M W lo ml) (hh : DO X M W hi mh) (hK : M.K = X.K := by rfl) : DE X M W (.Subscript a (.Slice lo hi none p2) pos) (dSl ma ml mh) := by
  obtain ⟨ta, pa, qa⟩ := ha
  obtain ⟨tl, pl, ql⟩ := hl
  obtain ⟨th, ph, qh⟩ := hh
  refine ⟨_, pe_slice sl_all pa pl ph, fun σ H F ρ Q sm h => ?_⟩
  refine qa σ H F ρ _ sm (Post.go h fun x ρ1 F1 H1 v _ st1 sm1 ok1 h1 => ?_)
  refine ql σ H1 F1 ρ1 _ sm1 (PostP.goE (Post.from st1 h1) fun l ρ2 F2 H2 st2 sm2 h2 => ?_)
  refine qh σ H2 F2 ρ2 _ sm2 (PostP.goE (Post.from st2 h2) fun u ρ3 F3 H3 st3 sm3 h3 => ?_)
  obtain ⟨rv, e, k⟩ := Post.fin' h3 st3 sm3
  obtain ⟨d, l1, hg⟩ := bind_some1 e
  exact hK ▸ sl_ok sm3.sub (ok1.view (st2.trans st3) sm3 l1) hg k
end
end DL

/- part -/
set_option Elab.async false
set_option linter.all false
set_option maxRecDepth 100000
set_option maxHeartbeats 4000000
namespace DL
open PySem PySem.Spec PyProof.Rows L2
section
variable {M : Mx} {W : WX} {X : Cx} {F H F' H' F1 H1 F2 H2 H0 : Hp} {σ σ1 : L2.St} {ρ ρ1 ρ2 : SE}
variable {a b c e tg : Expr} {ma mb mc m : DM RV} {mt mu : DM Bool} {es : List Expr} {pos p : Pos} {mv : DM (List D)} {ms : DM (List AV)}
/-! ### range, zip, enumerate walked -/
theorem it_range (lo : Int) (n : Nat) : ItOk M (Itr lo n) F ((List.range n).map fun (i : Nat) => D.int (lo + i)) := fun i F2 H2 sa sub => by
  refine ⟨fun d hd => ?_, fun hl => by
    rw [List.length_map, List.length_range] at hl
    exact hl⟩
  rw [List.getElem?_map] at hd
  obtain ⟨j, h1, h2⟩ := map_some hd
  obtain ⟨hi, hj⟩ := List.getElem?_eq_some_iff.mp h1
  rw [List.getElem_range] at hj
  rw [List.length_range] at hi
  subst hj h2
  refine ⟨hi, fun x H' y => ?_⟩
  obtain ⟨e1, e2⟩ := y
  subst e1 e2
  exact ⟨F2, Alc.refl sub, .int _⟩
def rngOk (j : Int) : Bool := decide (-1000000000000 ≤ j ∧ j ≤ 1000000000000)
def iRange1 (mv : DM (List D)) : DM (List D) := fun ρ => (mv ρ).bind fun ds ρ1 => match ds with
  | [.int j] => if rngOk j = true then .ok ((List.range j.toNat).map fun (i : Nat) => D.int (0 + (i : Int))) ρ1 else .bad
  | _ => .bad
def iRange2 (mv : DM (List D)) : DM (List D) := fun ρ => (mv ρ).bind fun ds ρ1 => match ds with
  | [.int i, .int j] => if (rngOk i && rngOk j) = true then .ok ((List.range (j - i).toNat).map fun (k : Nat) => D.int (i + k)) ρ1 else .bad
  | _ => .bad
theorem PostV.goI {r : R (List D)} {Q : It → Hp → Prop} {g : List D → SE → R (List D)} (h : PostI M W σ ρ F H (r.bind g) Q) {Q' : List V → Hp → Prop}
    (k : ∀ a ρ1 F1 H1 v, r = .ok a ρ1 → Stp F H σ ρ F1 H1 σ ρ1 → Sim M F1 H1 σ ρ1 → Vws M F1 H1 v a → PostI M W σ ρ F H (g a ρ1) Q → Q' v H1) : PostV M W σ ρ F H r Q' := by
  cases r with
  | bad => exact h
  | ok a ρ1 => exact fun F1 H1 v st sm ok => k a ρ1 F1 H1 v rfl st sm ok h
  | ex e ρ1 => exact h
theorem di_range1 (ha : DV X M W [a] mv) (hm : X.mg "range" = none) (hg : Gl X "range" := by rfl) (hs : starEach [a] X.env = [(false, eval a X.env)] := by rfl) : DI X M W tg (.Call (.Name "range" p) [a] [] pos) (iRange1 mv) := by
  obtain ⟨t, pa, qa⟩ := ha
  refine ⟨_, pi_range1 hg hm pa hs, fun σ H F ρ Q sm h => ?_⟩
  refine qa σ H F ρ _ sm (PostV.goI h fun ds ρ1 F1 H1 vs e0 st1 sm1 ok1 h1 => ?_)
  clear e0
  split at h1
  · rename_i j
    split at h1
    · rename_i hj
      obtain ⟨v, rfl, hv⟩ := vws1 ok1
      have hj2 : -1000000000000 ≤ j ∧ j ≤ 1000000000000 := of_decide_eq_true hj
      exact ⟨j, by rw [vw_int hv], by omega, by omega, h1 F1 H1 _ st1 sm1 (it_range 0 j.toNat)⟩
    · exact h1.elim
  · exact h1.elim
theorem di_range2 (ha : DV X M W [a, b] mv) (hm : X.mg "range" = none) (hg : Gl X "range" := by rfl) (hs : starEach [a, b] X.env = [(false, eval a X.env), (false, eval b X.env)] := by rfl) (hs2 : starEach [b] X.env = [(false, eval b X.env)] := by rfl) : DI X M W tg (.Call (.Name "range" p) [a, b] [] pos) (iRange2 mv) := by
  obtain ⟨t, pa, qa⟩ := ha
  refine ⟨_, pi_range2 hg hm pa hs hs2, fun σ H F ρ Q sm h => ?_⟩
  refine qa σ H F ρ _ sm (PostV.goI h fun ds ρ1 F1 H1 vs e0 st1 sm1 ok1 h1 => ?_)
  clear e0
  split at h1
  · rename_i i j
    split at h1
    · rename_i hj
      obtain ⟨v, w, rfl, hv, hw⟩ := vws2 ok1
      obtain ⟨hi, hj⟩ := Bool.and_eq_true_iff.mp hj
      have hj2 : -1000000000000 ≤ j ∧ j ≤ 1000000000000 := of_decide_eq_true hj
      have hi2 : -1000000000000 ≤ i ∧ i ≤ 1000000000000 := of_decide_eq_true hi
      exact ⟨i, j, by rw [vw_int hv, vw_int hw], by omega, h1 F1 H1 _ st1 sm1 (it_range i (j - i).toNat)⟩
    · exact h1.elim
  · exact h1.elim
def zipD (xs ys : List D) : List D := List.zipWith (fun x y => D.tup [x, y]) xs ys
def zipR (as : List AV) (ρ : SE) : R (List D) := match as with
  | [.d (.lst xs), .d (.lst ys)] => .ok (zipD xs ys) ρ
  | [.d (.tup xs), .d (.tup ys)] => .ok (zipD xs ys) ρ
  | _ => .bad
def iZip2 (ms : DM (List AV)) : DM (List D) := fun ρ => (ms ρ).bind zipR
theorem zip_get {xs ys : List D} {i : Nat} {d : D} (h : (zipD xs ys)[i]? = some d) : ∃ x y, xs[i]? = some x ∧ ys[i]? = some y ∧ d = .tup [x, y] := by
  unfold zipD at h
  rw [List.getElem?_zipWith] at h
  split at h
  · rename_i x y h1 h2
    exact ⟨x, y, h1, h2, (Option.some.inj h).symm⟩
  · cases h
theorem it_zip {a b : Addr} {vs ws : List V} {xs ys : List D} (h1 : F a = some (.lst vs)) (h2 : F b = some (.lst ws)) (r1 : Reps M F vs xs) (r2 : Reps M F ws ys) : ItOk M (Itz M.K a b) F (zipD xs ys) := fun i F2 H2 sa sub => by
  have g1 : SqL M.K H2 a vs := .inl (.inl (sub.go _ _ (sa _ _ h1)))
  have g2 : SqL M.K H2 b ws := .inl (.inl (sub.go _ _ (sa _ _ h2)))
  refine ⟨fun d hd => ?_, fun hl => ⟨vs, ws, g1, g2, ?_⟩⟩
  · obtain ⟨x, y, e1, e2, rfl⟩ := zip_get hd
    obtain ⟨v, q1, q2⟩ := r1.get e1
    obtain ⟨w, q3, q4⟩ := r2.get e2
    refine ⟨⟨vs, ws, v, w, g1, g2, q1, q3⟩, fun z H' y => ?_⟩
    obtain ⟨T, x1, x2, e3, nT, e4, f1, f2⟩ := y
    subst e3 e4
    have e5 := f1 _ g1
    have e6 := f2 _ g2
    rw [q1] at e5
    rw [q3] at e6
    cases e5
    cases e6
    exact ⟨_, Alc.newF' sub nT, Rep.tup (.inl (.inl upd_same)) (.cons ((q2.up sa).up (same_upd (sub.free nT))) (.cons ((q4.up sa).up (same_upd (sub.free nT))) .nil))⟩
  · unfold zipD at hl
    rw [List.length_zipWith] at hl
    rw [r1.length, r2.length]
    omega
theorem it_zipT {a b : Addr} {vs ws : List V} {xs ys : List D} (h1 : SqT M.K F a vs) (h2 : SqT M.K F b ws) (r1 : Reps M F vs xs) (r2 : Reps M F ws ys) : ItOk M (RZ.ItzT M.K a b) F (zipD xs ys) := fun i F2 H2 sa sub => by
  have g1 : SqT M.K H2 a vs := sub.sqT (same_sqT sa h1)
  have g2 : SqT M.K H2 b ws := sub.sqT (same_sqT sa h2)
  refine ⟨fun d hd => ?_, fun hl => ⟨vs, ws, g1, g2, ?_⟩⟩
  · obtain ⟨x, y, e1, e2, rfl⟩ := zip_get hd
    obtain ⟨v, q1, q2⟩ := r1.get e1
    obtain ⟨w, q3, q4⟩ := r2.get e2
    refine ⟨⟨vs, ws, v, w, g1, g2, q1, q3⟩, fun z H' y => ?_⟩
    obtain ⟨T, x1, x2, e3, nT, e4, f1, f2⟩ := y
    subst e3 e4
    have e5 := f1 _ g1
    have e6 := f2 _ g2
    rw [q1] at e5
    rw [q3] at e6
    cases e5
    cases e6
    exact ⟨_, Alc.newF' sub nT, Rep.tup (.inl (.inl upd_same)) (.cons ((q2.up sa).up (same_upd (sub.free nT))) (.cons ((q4.up sa).up (same_upd (sub.free nT))) .nil))⟩
  · unfold zipD at hl
    rw [List.length_zipWith] at hl
    rw [r1.length, r2.length]
    omega
theorem PostA.goI {r : R (List AV)} {Q : It → Hp → Prop} {g : List AV → SE → R (List D)} (h : PostI M W σ ρ F H (r.bind g) Q) {Q' : List V → Hp → Prop}
    (k : ∀ a ρ1 F1 H1 v, r = .ok a ρ1 → Stp F H σ ρ F1 H1 σ ρ1 → Sim M F1 H1 σ ρ1 → AvsOk M F1 σ ρ1 v a → PostI M W σ ρ F H (g a ρ1) Q → Q' v H1) : PostA M W σ ρ F H r Q' := by
  cases r with
  | bad => exact h
  | ok a ρ1 => exact fun F1 H1 v st sm ok => k a ρ1 F1 H1 v rfl st sm ok h
  | ex e ρ1 => exact h
theorem di_zip {elts : List Expr} {kk : Nat} {tpos : Pos} (ha : DA X M W [a, b] ms) (hm : X.mg "zip" = none) (hg : Gl X "zip" := by rfl) (hs : starEach [a, b] X.env = (false, eval a X.env) :: starEach [b] X.env := by rfl) (hpl : (backTo pos (starEach [b] X.env)).any (·.1) = false := by rfl) (hK : M.K = X.K := by rfl) :
    DI X M W (.Tuple elts kk tpos) (.Call (.Name "zip" p) [a, b] [] pos) (iZip2 ms) := by
  obtain ⟨t, pa, qa⟩ := ha
  refine ⟨_, RZ.pi_zipA hg hm pa hs hpl, fun σ H F ρ Q sm h => ?_⟩
  refine qa σ H F ρ _ sm (PostA.goI h fun as ρ1 F1 H1 vs e0 st1 sm1 ok1 h1 => ?_)
  clear e0
  rw [← hK]
  unfold zipR at h1
  split at h1
  · cases ok1 with
    | cons r1 ok1 =>
      cases ok1 with
      | cons r2 ok1 =>
        cases ok1
        rename_i v w
        have r1 : Rep M F1 v _ := r1
        have r2 : Rep M F1 w _ := r2
        cases r1 with
        | lst q1 q2 =>
          cases r2 with
          | lst q3 q4 => exact ⟨_, _, _, _, rfl, .inl ⟨.inl (.inl (sm1.sub.go _ _ q1)), .inl (.inl (sm1.sub.go _ _ q3)), h1 F1 H1 _ st1 sm1 (it_zip q1 q3 q2 q4)⟩⟩
  · cases ok1 with
    | cons r1 ok1 =>
      cases ok1 with
      | cons r2 ok1 =>
        cases ok1
        rename_i v w
        have r1 : Rep M F1 v _ := r1
        have r2 : Rep M F1 w _ := r2
        cases r1 with
        | tup q1 q2 =>
          cases r2 with
          | tup q3 q4 => exact ⟨_, _, _, _, rfl, .inr ⟨sm1.sub.sqT q1, sm1.sub.sqT q3, h1 F1 H1 _ st1 sm1 (it_zipT q1 q3 q2 q4)⟩⟩
  · exact h1.elim
def enumD (xs : List D) : List D := xs.mapIdx fun i x => D.tup [.int i, x]
def enumR (as : List AV) (ρ : SE) : R (List D) := match as with
  | [.d (.lst xs)] => .ok (enumD xs) ρ
  | _ => .bad
def iEnum1 (ms : DM (List AV)) : DM (List D) := fun ρ => (ms ρ).bind enumR
theorem it_enum {a : Addr} {vs : List V} {xs : List D} (h1 : F a = some (.lst vs)) (r1 : Reps M F vs xs) : ItOk M (Ite M.K a) F (enumD xs) := fun i F2 H2 sa sub => by
  have g1 : SqL M.K H2 a vs := .inl (.inl (sub.go _ _ (sa _ _ h1)))
  refine ⟨fun d hd => ?_, fun hl => ⟨vs, g1, ?_⟩⟩
  · unfold enumD at hd
    rw [List.getElem?_mapIdx] at hd
    obtain ⟨x, e1, e2⟩ := map_some hd
    subst e2
    obtain ⟨v, q1, q2⟩ := r1.get e1
    refine ⟨⟨vs, v, g1, q1⟩, fun z H' y => ?_⟩
    obtain ⟨T, x1, e3, nT, e4, f1⟩ := y
    subst e3 e4
    have e5 := f1 _ g1
    rw [q1] at e5
    cases e5
    exact ⟨_, Alc.newF' sub nT, Rep.tup (.inl (.inl upd_same)) (.cons (.int _) (.cons ((q2.up sa).up (same_upd (sub.free nT))) .nil))⟩
  · unfold enumD at hl
    rw [List.length_mapIdx] at hl
    rw [r1.length]
    exact hl
theorem di_enum {elts : List Expr} {kk : Nat} {tpos : Pos} (ha : DA X M W [a] ms) (hm : X.mg "enumerate" = none) (hg : Gl X "enumerate" := by rfl) (hs : starEach [a] X.env = [(false, eval a X.env)] := by rfl) (hK : M.K = X.K := by rfl) :
    DI X M W (.Tuple elts kk tpos) (.Call (.Name "enumerate" p) [a] [] pos) (iEnum1 ms) := by
  obtain ⟨t, pa, qa⟩ := ha
  refine ⟨_, pi_enum hg hm pa hs, fun σ H F ρ Q sm h => ?_⟩
  refine qa σ H F ρ _ sm (PostA.goI h fun as ρ1 F1 H1 vs e0 st1 sm1 ok1 h1 => ?_)
  clear e0
  rw [← hK]
  unfold enumR at h1
  split at h1
  · cases ok1 with
    | cons r1 ok1 =>
      cases ok1
      rename_i v
      have r1 : Rep M F1 v _ := r1
      cases r1 with
      | lst q1 q2 => exact ⟨_, _, rfl, .inl (.inl (sm1.sub.go _ _ q1)), h1 F1 H1 _ st1 sm1 (it_enum q1 q2)⟩
  · exact h1.elim

/-! ### comprehensions -/
def wipeR (ρ : SE) : List Nat → SE
  | [] => ρ
  | v :: vs => (wipeR ρ vs).set v .no
/-- the slots of a comprehension's own names as they were ahead of it -/
def rest (vs : List Nat) (ρ ρ' : SE) : SE := ρ'.mapIdx fun i sv => if i ∈ vs then (ρ[i]?).getD .no else sv
def noOw (ρ : SE) (vs : List Nat) : Bool := vs.all fun i => match ρ[i]? with
  | some (.ow _ _) => false
  | _ => true
def noEx {α : Type} : R α → R α
  | .ex _ _ => .bad
  | r => r
def cTurn (vs : List Nat) (gm : D → SE → R Unit) (mt : DM Bool) (me : DM RV) (d : D) : DM (Option D) := fun ρ => (noEx (gm d (wipeR ρ vs))).bind fun _ ρ1 => (noEx (mt ρ1)).bind fun k ρ2 =>
  if k = true then (noEx (dFz me ρ2)).bind fun y ρ3 => .ok (some y) (rest vs ρ ρ3) else .ok none (rest vs ρ ρ2)
def addO (acc : List D) : Option D → List D
  | some y => acc ++ [y]
  | none => acc
def cLoop (vs : List Nat) (gm : D → SE → R Unit) (mt : DM Bool) (me : DM RV) : List D → List D → SE → R (List D)
  | [], acc, ρ => .ok acc ρ
  | d :: ds, acc, ρ => if (noOw ρ vs && decide (acc.length < 1000000)) = true then (cTurn vs gm mt me d ρ).bind fun o ρ1 => cLoop vs gm mt me ds (addO acc o) ρ1 else .bad
def dLc (vs : List Nat) (mi : DM (List D)) (gm : D → SE → R Unit) (mt : DM Bool) (me : DM RV) : DM RV := fun ρ => (mi ρ).bind fun ds ρ1 => (cLoop vs gm mt me ds [] ρ1).bind fun ys ρ2 => .ok (.ow (.ls ys)) ρ2
theorem wipeR_len (ρ : SE) : ∀ vs, (wipeR ρ vs).length = ρ.length
  | [] => rfl
  | v :: vs => by
    unfold wipeR
    rw [List.length_set, wipeR_len ρ vs]
theorem wipeR_out {ρ : SE} {i : Nat} : ∀ {vs : List Nat}, i ∉ vs → (wipeR ρ vs)[i]? = ρ[i]?
  | [], _ => rfl
  | v :: vs, h => by
    unfold wipeR
    rw [List.getElem?_set_ne (fun z => h (by rw [z]; exact List.mem_cons_self))]
    exact wipeR_out fun z => h (List.mem_cons_of_mem _ z)
theorem wipeR_in {ρ : SE} {i : Nat} {sv : SV} : ∀ {vs : List Nat}, i ∈ vs → (wipeR ρ vs)[i]? = some sv → sv = .no
  | v :: vs, h, e => by
    unfold wipeR at e
    by_cases hv : v = i
    · subst hv
      exact set_eq e
    · rw [List.getElem?_set_ne hv] at e
      rcases List.mem_cons.mp h with z | z
      · exact (hv z.symm).elim
      · exact wipeR_in z e
theorem wipe_out' {σ : L2.St} {i : Nat} {vs : List Nat} (h : i ∉ vs) : (L2.wipe σ vs)[i]? = σ[i]? := L2.wipe_out h
theorem wipe_sim {vs : List Nat} (sm : Sim M F H σ ρ) : Sim M F H (L2.wipe σ vs) (wipeR ρ vs) := by
  have tr : ∀ {i : Nat} {sv : SV}, (wipeR ρ vs)[i]? = some sv → sv ≠ .no → ρ[i]? = some sv ∧ (L2.wipe σ vs)[i]? = σ[i]? := fun {i sv} h hne => by
    by_cases hi : i ∈ vs
    · exact (hne (wipeR_in hi h)).elim
    · rw [wipeR_out hi] at h
      exact ⟨h, wipe_out' hi⟩
  refine ⟨sm.sub0, sm.tabs, by rw [L2.wipe_length, wipeR_len]; exact sm.len, fun i d e => ?_, fun i io ds e => ?_, fun i j a o1 o2 e1 e2 => ?_⟩
  · obtain ⟨h1, h2⟩ := tr e (by simp)
    rw [h2]
    exact sm.im i d h1
  · obtain ⟨h1, h2⟩ := tr e (by simp)
    rw [h2]
    exact sm.ow i io ds h1
  · obtain ⟨io1, ds1, q1⟩ := o1
    obtain ⟨io2, ds2, q2⟩ := o2
    obtain ⟨h1, h2⟩ := tr q1 (by simp)
    obtain ⟨h3, h4⟩ := tr q2 (by simp)
    rw [h2] at e1
    rw [h4] at e2
    exact sm.inj i j a ⟨_, _, h1⟩ ⟨_, _, h3⟩ e1 e2
theorem noOw_at {vs : List Nat} (h : noOw ρ vs = true) {i : Nat} (hi : i ∈ vs) : ¬ isOw ρ i := fun ⟨io, ds, e⟩ => by
  have h2 := List.all_eq_true.mp h i hi
  rw [e] at h2
  cases h2
theorem rest_at {vs : List Nat} {ρ' : SE} {i : Nat} {sv : SV} (hl : ρ'.length = ρ.length) (h : (rest vs ρ ρ')[i]? = some sv) : (i ∈ vs ∧ ρ[i]? = some sv) ∨ (i ∉ vs ∧ ρ'[i]? = some sv) := by
  unfold rest at h
  rw [List.getElem?_mapIdx] at h
  obtain ⟨sw, e1, e2⟩ := map_some h
  by_cases hi : i ∈ vs
  · rw [if_pos hi] at e2
    have lt : i < ρ.length := by
      rw [← hl]
      exact (List.getElem?_eq_some_iff.mp e1).1
    rw [List.getElem?_eq_getElem lt] at e2
    exact .inl ⟨hi, by rw [List.getElem?_eq_getElem lt, ← e2]; rfl⟩
  · rw [if_neg hi] at e2
    subst e2
    exact .inr ⟨hi, e1⟩
theorem rest_out {vs : List Nat} {ρ' : SE} {i : Nat} (hi : i ∉ vs) : (rest vs ρ ρ')[i]? = ρ'[i]? := by
  unfold rest
  rw [List.getElem?_mapIdx]
  cases e : ρ'[i]? with
  | none => rfl
  | some sv => simp [hi]
theorem rest_in {vs : List Nat} {ρ' : SE} {i : Nat} {sv : SV} (hl : ρ'.length = ρ.length) (hi : i ∈ vs) (h : ρ[i]? = some sv) : (rest vs ρ ρ')[i]? = some sv := by
  have lt : i < ρ'.length := by
    rw [hl]
    exact (List.getElem?_eq_some_iff.mp h).1
  unfold rest
  rw [List.getElem?_mapIdx, List.getElem?_eq_getElem lt]
  simp [hi, h]
/-- behind a turn -/
theorem rest_sim {vs : List Nat} {ρ' : SE} (sm : Sim M F H σ ρ) (no : noOw ρ vs = true) (hw : ∀ j, j ∉ vs → σ1[j]? = σ[j]?) (st : Stp F H (L2.wipe σ vs) (wipeR ρ vs) F' H' σ1 ρ') (sm' : Sim M F' H' σ1 ρ') (hl : ρ'.length = ρ.length) :
    Stp F H σ ρ F' H' σ (rest vs ρ ρ') ∧ Sim M F' H' σ (rest vs ρ ρ') := by
  have o1 : ∀ b, Own (L2.wipe σ vs) (wipeR ρ vs) b → Own σ ρ b := fun b ⟨i, ⟨io, ds, e⟩, e2⟩ => by
    by_cases hi : i ∈ vs
    · cases wipeR_in hi e
    · rw [wipeR_out hi] at e
      rw [wipe_out' hi] at e2
      exact ⟨i, ⟨io, ds, e⟩, e2⟩
  have o3 : ∀ {i : Nat}, isOw (rest vs ρ ρ') i → i ∉ vs ∧ isOw ρ' i := fun {i} ⟨io, ds, e⟩ => by
    rcases rest_at hl e with ⟨hi, e⟩ | ⟨hi, e⟩
    · exact (noOw_at no hi ⟨io, ds, e⟩).elim
    · exact ⟨hi, io, ds, e⟩
  have o2 : ∀ b, Own σ (rest vs ρ ρ') b → Own σ1 ρ' b := fun b ⟨i, o, e2⟩ => by
    obtain ⟨hi, o'⟩ := o3 o
    exact ⟨i, o', by rw [hw i hi]; exact e2⟩
  refine ⟨⟨st.same, fun b o h n nt => st.keep b o h (fun z => n (o1 b z)) nt, fun b z => (st.new b (o2 b z)).elim (fun z => .inl (o1 b z)) .inr, fun b o z => (st.newF b o z).elim .inl fun z => z.elim (fun z => .inr (.inl (o1 b z))) fun z => .inr (.inr z), st.dom, fun i ds e => ⟨rfl, ?_⟩, fun i ds e => ?_⟩,
    ⟨sm'.sub0, sm'.tabs, by unfold rest; rw [List.length_mapIdx, hl]; exact sm.len, fun i d e => ?_, fun i io ds e => ?_, fun i j a p1 p2 e1 e2 => ?_⟩⟩
  · by_cases hi : i ∈ vs
    · exact (noOw_at no hi ⟨_, _, e⟩).elim
    · obtain ⟨_, ds', e2⟩ := st.io i ds (by rw [wipeR_out hi]; exact e)
      exact ⟨ds', by rw [rest_out hi]; exact e2⟩
  · rcases rest_at hl e with ⟨hi, e⟩ | ⟨hi, e⟩
    · exact ⟨ds, e⟩
    · obtain ⟨ds', e2⟩ := st.noio i ds e
      rw [wipeR_out hi] at e2
      exact ⟨ds', e2⟩
  · rcases rest_at hl e with ⟨hi, e⟩ | ⟨hi, e⟩
    · obtain ⟨v, e1, r⟩ := sm.im i d e
      exact ⟨v, e1, r.up st.same⟩
    · rw [← hw i hi]
      exact sm'.im i d e
  · rcases rest_at hl e with ⟨hi, e⟩ | ⟨hi, e⟩
    · exact (noOw_at no hi ⟨_, _, e⟩).elim
    · rw [← hw i hi]
      exact sm'.ow i io ds e
  · obtain ⟨h1, q1⟩ := o3 p1
    obtain ⟨h2, q2⟩ := o3 p2
    exact sm'.inj i j a q1 q2 (by rw [hw i h1]; exact e1) (by rw [hw j h2]; exact e2)
end
end DL

/- part -/
set_option Elab.async false
set_option linter.all false
set_option maxRecDepth 100000
set_option maxHeartbeats 4000000
namespace DL
open PySem PySem.Spec PyProof.Rows L2
section
variable {M : Mx} {W : WX} {X : Cx} {F H F' H' F1 H1 F2 H2 H0 : Hp} {σ σ1 : L2.St} {ρ ρ1 ρ2 : SE}
variable {a b c e tg : Expr} {ma mb mc m : DM RV} {mt mu : DM Bool} {es : List Expr} {pos p : Pos} {mv : DM (List D)} {ms : DM (List AV)}
/-- an object that no slot owns and that isn't frozen is changed -/
theorem free_upd {F0 : Hp} {σ0 : L2.St} {ρ0 : SE} {x : Addr} {vs ws : List V} (st : Stp F0 H0 σ0 ρ0 F H σ ρ) (sm : Sim M F H σ ρ) (hx : H x = some (.lst vs)) (n0 : Fre H0 x) (nF : F x = none) (no : ¬ Own σ ρ x) :
    Stp F0 H0 σ0 ρ0 F (upd H x (.lst ws)) σ ρ ∧ Sim M F (upd H x (.lst ws)) σ ρ := by
  have tb : LamX.Tabs M.T (upd H x (.lst ws)) := tabs_updG (M := ⟨M.K, M.mg, M.ca, M.T⟩) (F := F) (oc := .ls []) (o := .lst []) (H := upd H x (.lst [])) upd_same (.ls .nil) (fun p hp => by
    obtain ⟨ps, h1, h2, h3⟩ := sm.tabs p hp
    refine ⟨ps, ?_, h2, fun pos cv hc => ?_⟩
    · rw [upd_ne]
      · exact h1
      · intro z
        rw [z, hx] at h1
        cases h1
    · obtain ⟨c, e1, e2⟩ := h3 pos cv hc
      refine ⟨c, e1, ?_⟩
      rw [upd_ne]
      · exact e2
      · intro z
        rw [z, hx] at e2
        cases e2) |> fun z => by rw [upd_upd] at z; exact z
  refine ⟨⟨st.same, fun b o h n nt => ?_, st.new, st.newF, fun b z => ?_, st.io, st.noio⟩, ⟨⟨⟨fun b o h nb => ?_, fun b n vs h => ?_⟩, sm.ntb⟩, tb, sm.len, sm.im, fun i io ds z => ?_, sm.inj⟩⟩
  · rw [upd_ne (n0.ne h nt)]
    exact st.keep b o h n nt
  · exact st.dom b z.back
  · rw [upd_ne (ne_of_none h nF)]
    exact sm.sub.go b o h nb
  · rw [upd_ne (ne_of_none h nF)]
    exact sm.sub.bk b n vs h
  · obtain ⟨a, us, e1, e2, e3, e4⟩ := sm.ow i io ds z
    refine ⟨a, us, e1, ?_, e3, e4⟩
    rw [upd_ne]
    · exact e2
    · intro z2
      subst z2
      exact no ⟨i, ⟨io, ds, z⟩, e1⟩
theorem wipe_but {vs sl : List Nat} (hs : ∀ i ∈ sl, i ∈ vs) (b : But sl (L2.wipe σ vs) σ1) : L2.wipe σ1 vs = L2.wipe σ vs ∧ ∀ j, j ∉ vs → σ1[j]? = σ[j]? := by
  have h1 : ∀ j, j ∉ vs → σ1[j]? = σ[j]? := fun j hj => by
    rw [b.2 j fun z => hj (hs j z), wipe_out' hj]
  refine ⟨List.ext_getElem? fun j => ?_, h1⟩
  have hl : σ1.length = σ.length := by rw [b.1, L2.wipe_length]
  by_cases hj : j ∈ vs
  · have ww : ∀ τ : L2.St, τ.length = σ.length → (L2.wipe τ vs)[j]? = if j < σ.length then some none else none := fun τ ht => by
      by_cases lt : j < σ.length
      · rw [if_pos lt]
        have lt2 : j < (L2.wipe τ vs).length := by
          rw [L2.wipe_length, ht]
          exact lt
        cases q : (L2.wipe τ vs)[j]? with
        | none =>
          rw [List.getElem?_eq_getElem lt2] at q
          cases q
        | some o =>
          cases o with
          | none => rfl
          | some v => exact ((L2.wipe_some q).2 hj).elim
      · rw [if_neg lt]
        exact List.getElem?_eq_none (by rw [L2.wipe_length, ht]; omega)
    rw [ww σ1 hl, ww σ rfl]
  · rw [wipe_out' hj, wipe_out' hj]
    exact h1 j hj
theorem noEx_ok {α : Type} {r : R α} {b : α} {ρ' : SE} (h : noEx r = .ok b ρ') : r = .ok b ρ' := by
  cases r with
  | bad => cases h
  | ok a ρ => exact h
  | ex e ρ => cases h
def W0 : WX := fun _ _ _ _ => False
def DTs (X : Cx) (M : Mx) (W : WX) (es : List Expr) (m : DM Bool) : Prop := ∃ te, PTs X es te ∧ ∀ σ H F ρ Q, Sim M F H σ ρ → PostT M W σ ρ F H (m ρ) Q → te σ H Q
def tYesD : DM Bool := fun ρ => .ok true ρ
theorem dts_nil : DTs X M W [] tYesD := ⟨_, pts_nil, fun σ H F ρ Q sm h => h F H (Stp.refl _ _ _ _) sm⟩
theorem dts_one (h : DT X M W c mt) : DTs X M W [c] mt := by
  obtain ⟨t, p, q⟩ := h
  exact ⟨t, pts_one p, q⟩
theorem q_lc {wi : TI} {g : TG} {tt : TT} {te : TE} {vs sl : List Nat} {mi : DM (List D)} {gm : D → SE → R Unit} {me : DM RV} (hsl : ∀ i ∈ sl, i ∈ vs) (nx : NoEx gm) (qi : ∀ σ H F ρ Q, Sim M F H σ ρ → PostI M W σ ρ F H (mi ρ) Q → wi σ H Q)
    (qg : ∀ v d σ H F ρ (Q : L2.St → Hp → Prop), Sim M F H σ ρ → Rep M F v d → (∃ ρ', gm d ρ = .ok () ρ' ∧ ∀ σ', But sl σ σ' → (∀ F0 H0 σ0 ρ0, Stp F0 H0 σ0 ρ0 F H σ ρ → Stp F0 H0 σ0 ρ0 F H σ' ρ') → Sim M F H σ' ρ' → Q σ' H) → g v σ H Q)
    (qt : ∀ σ H F ρ Q, Sim M F H σ ρ → PostT M W0 σ ρ F H (mt ρ) Q → tt σ H Q) (qe : ∀ σ H F ρ Q, Sim M F H σ ρ → Post M W0 σ ρ F H (me ρ) Q → te σ H Q) : ∀ σ H F ρ Q, Sim M F H σ ρ → Post M W σ ρ F H (dLc vs mi gm mt me ρ) Q → tLc wi g tt te vs σ H Q := fun σ H F ρ Q sm h => by
  refine qi σ H F ρ _ sm ?_
  unfold dLc at h
  cases e0 : mi ρ with
  | bad =>
    rw [e0] at h
    exact h
  | ex x ρ1 =>
    rw [e0] at h
    exact h
  | ok ds ρ1 =>
    rw [e0] at h
    intro F1 H1 J st1 sm1 it D hD
    have h : Post M W σ ρ F H ((cLoop vs gm mt me ds [] ρ1).bind fun ys ρ2 => .ok (.ow (.ls ys)) ρ2) Q := h
    have hD0 : Fre H D := st1.dom D (.of hD)
    have nF1 : F1 D = none := sm1.sub.free hD
    have nO1 : ¬ Own σ ρ1 D := fun z => by
      obtain ⟨_, ws, e, _⟩ := sm1.ownF z
      rw [hD] at e
      cases e
    have al0 := Alc.new (o := HO.lst []) sm1.sub hD
    refine ⟨fun i k H' => k = ds.length - i ∧ i ≤ ds.length ∧ ∃ F' ρ' acc av, Same F1 F' ∧ Stp F H σ ρ F' H' σ ρ' ∧ Sim M F' H' σ ρ' ∧ H' D = some (.lst av) ∧ F' D = none ∧ ¬ Own σ ρ' D ∧ Reps M F' av acc ∧ Post M W σ ρ F H ((cLoop vs gm mt me (ds.drop i) acc ρ').bind fun ys ρ2 => .ok (.ow (.ls ys)) ρ2) Q,
      ⟨ds.length, by simp, Nat.zero_le _, F1, ρ1, [], [], Same.refl _, st1.trans (al0.stp _ _), sm1.alc al0, upd_same, nF1, nO1, .nil, h⟩, ?_⟩
    rintro i k H2 ⟨rfl, hi, F2, ρ2, acc, av, sa, st2, sm2, hd2, nF2, nO2, ra, h2⟩
    by_cases lt : i < ds.length
    · have ed : ds.drop i = ds[i] :: ds.drop (i + 1) := List.drop_eq_getElem_cons lt
      rw [ed] at h2
      obtain ⟨g1, g2⟩ := (it i F2 H2 sa sm2.sub).1 ds[i] (List.getElem?_eq_getElem lt)
      refine .inr ⟨g1, fun H' => ∃ F' ρ' acc av, Same F1 F' ∧ Stp F H σ ρ F' H' σ ρ' ∧ Sim M F' H' σ ρ' ∧ H' D = some (.lst av) ∧ F' D = none ∧ ¬ Own σ ρ' D ∧ Reps M F' av acc ∧ Post M W σ ρ F H ((cLoop vs gm mt me (ds.drop (i + 1)) acc ρ').bind fun ys ρ2 => .ok (.ow (.ls ys)) ρ2) Q, fun H' q => ⟨ds.length - (i + 1), by omega, rfl, lt, q⟩, fun x H3 y => ?_⟩
      obtain ⟨F3, al, rx⟩ := g2 x H3 y
      have sm3 := sm2.alc al
      have hd3 := al.sameH _ _ hd2
      have nF3 := al.free nF2 hd2
      have h2 : Post M W σ ρ F H ((if (noOw ρ2 vs && decide (acc.length < 1000000)) = true then (cTurn vs gm mt me ds[i] ρ2).bind fun o ρ1 => cLoop vs gm mt me (ds.drop (i + 1)) (addO acc o) ρ1 else .bad).bind fun ys ρ2 => .ok (.ow (.ls ys)) ρ2) Q := h2
      by_cases cnd : (noOw ρ2 vs && decide (acc.length < 1000000)) = true
      · rw [if_pos cnd] at h2
        obtain ⟨no2, lt2⟩ := Bool.and_eq_true_iff.mp cnd
        have lt2 : acc.length < 1000000 := of_decide_eq_true lt2
        have smw := wipe_sim (vs := vs) sm3
        have nOw : ¬ Own (L2.wipe σ vs) (wipeR ρ2 vs) D := fun ⟨l, ⟨io, es, z⟩, z2⟩ => by
          by_cases hl : l ∈ vs
          · cases wipeR_in hl z
          · rw [wipeR_out hl] at z
            rw [wipe_out' hl] at z2
            exact nO2 ⟨l, ⟨io, es, z⟩, z2⟩
        unfold cTurn at h2
        cases eg : gm ds[i] (wipeR ρ2 vs) with
        | bad =>
          rw [eg] at h2
          exact h2.elim
        | ex x2 ρ3 => exact (nx _ _ _ _ eg).elim
        | ok u ρ3 =>
          rw [eg] at h2
          refine qg x ds[i] (L2.wipe σ vs) H3 F3 (wipeR ρ2 vs) _ smw rx ⟨ρ3, eg, fun σ3 bu st3 sm3' => ?_⟩
          obtain ⟨w1, w2⟩ := wipe_but hsl bu
          refine ⟨w1, ?_⟩
          have st3 := st3 _ _ _ _ (Stp.refl F3 H3 (L2.wipe σ vs) (wipeR ρ2 vs))
          have nO3 : ¬ Own σ3 ρ3 D := fun z => by
            rcases st3.new D z with z | z
            · exact nOw z
            · exact (z.lst hd3).elim
          refine qt σ3 H3 F3 ρ3 _ sm3' ?_
          cases et : mt ρ3 with
          | bad =>
            rw [show noEx (.ok u ρ3) = R.ok u ρ3 from rfl] at h2
            simp only [R.bind, et, noEx] at h2
            exact h2.elim
          | ex x2 ρ4 =>
            rw [show noEx (.ok u ρ3) = R.ok u ρ3 from rfl] at h2
            simp only [R.bind, et, noEx] at h2
            exact h2.elim
          | ok b ρ4 =>
            rw [show noEx (.ok u ρ3) = R.ok u ρ3 from rfl] at h2
            have h2 : Post M W σ ρ F H (((if b = true then (noEx (dFz me ρ4)).bind fun y ρ5 => .ok (some y) (rest vs ρ2 ρ5) else .ok none (rest vs ρ2 ρ4)).bind fun o ρ1 => cLoop vs gm mt me (ds.drop (i + 1)) (addO acc o) ρ1).bind fun ys ρ2 => .ok (.ow (.ls ys)) ρ2) Q := by
              have z := h2
              simp only [R.bind, et, noEx] at z ⊢
              exact z
            intro F4 H4 st4 sm4
            have hd4 : H4 D = some (.lst av) := st4.keep _ _ hd3 nO3 (fun ps z => by cases z)
            have nF4 : F4 D = none := by
              cases z : F4 D with
              | none => rfl
              | some o =>
                rcases st4.newF D o z with z | z | z
                · rw [nF3] at z
                  cases z
                · exact (nO3 z).elim
                · exact (z.lst hd3).elim
            have nO4 : ¬ Own σ3 ρ4 D := fun z => by
              rcases st4.new D z with z | z
              · exact nO3 z
              · exact (z.lst hd3).elim
            have lens : ∀ {ρx : SE}, σ3.length = ρx.length → ρx.length = ρ2.length := fun {ρx} z => by
              rw [← z, bu.1, L2.wipe_length, sm2.len]
            cases b with
            | false =>
              rw [if_neg Bool.false_ne_true] at h2
              rw [if_neg Bool.false_ne_true]
              have st34 := st3.trans st4
              obtain ⟨st5, sm5⟩ := rest_sim sm3 no2 w2 st34 sm4 (lens sm4.len)
              refine ⟨F4, _, acc, av, (sa.trans al.same).trans st34.same, st2.trans ((al.stp σ ρ2).trans st5), sm5, hd4, nF4, fun z => ?_, ra.up (al.same.trans st34.same), h2⟩
              rcases st5.new D z with z | z
              · exact nO2 z
              · exact (z.lst hd3).elim
            | true =>
              rw [if_pos rfl] at h2
              rw [if_pos rfl]
              refine qe σ3 H4 F4 ρ4 _ sm4 (PostD.go ?_)
              have h2 : Post M W σ ρ F H ((((noEx ((me ρ4).bind fz)).bind fun y ρ5 => .ok (some y) (rest vs ρ2 ρ5)).bind fun o ρ1 => cLoop vs gm mt me (ds.drop (i + 1)) (addO acc o) ρ1).bind fun ys ρ2 => .ok (.ow (.ls ys)) ρ2) Q := h2
              cases ee : (me ρ4).bind fz with
              | bad =>
                rw [ee] at h2
                exact h2.elim
              | ex x2 ρ5 =>
                rw [ee] at h2
                exact h2.elim
              | ok y ρ5 =>
                rw [ee] at h2
                have h2 : Post M W σ ρ F H ((cLoop vs gm mt me (ds.drop (i + 1)) (acc ++ [y]) (rest vs ρ2 ρ5)).bind fun ys ρ2 => .ok (.ow (.ls ys)) ρ2) Q := h2
                intro F5 H5 w st5 sm5 rw5
                have hd5 : H5 D = some (.lst av) := st5.keep _ _ hd4 nO4 (fun ps z => by cases z)
                have nF5 : F5 D = none := by
                  cases z : F5 D with
                  | none => rfl
                  | some o =>
                    rcases st5.newF D o z with z | z | z
                    · rw [nF4] at z
                      cases z
                    · exact (nO4 z).elim
                    · exact (z.lst hd4).elim
                have st35 := (st3.trans st4).trans st5
                obtain ⟨st6, sm6⟩ := rest_sim sm3 no2 w2 st35 sm5 (lens sm5.len)
                have nO6 : ¬ Own σ (rest vs ρ2 ρ5) D := fun z => by
                  rcases st6.new D z with z | z
                  · exact nO2 z
                  · exact (z.lst hd3).elim
                have up : Same F2 F5 := al.same.trans st35.same
                refine ⟨av, hd5, by rw [ra.length]; exact szlt lt2, ?_⟩
                obtain ⟨st7, sm7⟩ := free_upd (ws := av ++ [w]) (st2.trans ((al.stp σ ρ2).trans st6)) sm6 hd5 hD0 nF5 nO6
                exact ⟨F5, _, acc ++ [y], av ++ [w], sa.trans up, st7, sm7, upd_same, nF5, nO6, (ra.up up).append (.cons rw5 .nil), h2⟩
      · rw [if_neg cnd] at h2
        exact h2.elim
    · have e1 : i = ds.length := by omega
      subst e1
      refine .inl ⟨(it _ F2 H2 sa sm2.sub).2 (Nat.le_refl _), ?_⟩
      rw [List.drop_length] at h2
      exact h2 F2 H2 _ st2 sm2 ⟨D, _, rfl, hd2, nF2, .ls ra, nO2, hD0⟩
/-! the readings that the data tell, the same in every context -/
def canE (M : Mx) (W : WX) (m : DM RV) : TE := fun σ H Q => ∃ F ρ, Sim M F H σ ρ ∧ Post M W σ ρ F H (m ρ) Q
def canT (M : Mx) (W : WX) (m : DM Bool) : TT := fun σ H Q => ∃ F ρ, Sim M F H σ ρ ∧ PostT M W σ ρ F H (m ρ) Q
def canG (M : Mx) (sl : List Nat) (gm : D → SE → R Unit) : TG := fun v σ H Q => ∃ d F ρ, Sim M F H σ ρ ∧ Rep M F v d ∧ ∃ ρ', gm d ρ = .ok () ρ' ∧ ∀ σ', But sl σ σ' → (∀ F0 H0 σ0 ρ0, Stp F0 H0 σ0 ρ0 F H σ ρ → Stp F0 H0 σ0 ρ0 F H σ' ρ') → Sim M F H σ' ρ' → Q σ' H
theorem DE.can (h : DE X M W e m) : PE X e (canE M W m) := by
  obtain ⟨t, p, q⟩ := h
  exact ⟨fun pins s σ H Q I ⟨F, ρ, sm, po⟩ => p.run pins s σ H Q I (q σ H F ρ Q sm po)⟩
theorem DT.can (h : DT X M W e mt) : PT X e (canT M W mt) := by
  obtain ⟨t, p, q⟩ := h
  exact ⟨fun pins s σ H Q I ⟨F, ρ, sm, po⟩ => p.run pins s σ H Q I (q σ H F ρ Q sm po)⟩
theorem DTs.can (h : DTs X M W es mt) : PTs X es (canT M W mt) := by
  obtain ⟨t, p, q⟩ := h
  exact ⟨fun pins s σ H Q I ⟨F, ρ, sm, po⟩ => p.run pins s σ H Q I (q σ H F ρ Q sm po)⟩
theorem DG.can {sl : List Nat} {gm : D → SE → R Unit} (h : DG X M tg sl gm) : PG X tg (canG M sl gm) := by
  obtain ⟨_, t, p, q⟩ := h
  exact ⟨fun pins s σ H v u Q I r ⟨d, F, ρ, sm, rd, z⟩ => p.run pins s σ H v u Q I r (q v d σ H F ρ Q sm rd z)⟩
variable {elt iter : Expr} {ifs : List Expr} {scope : Scope} {own : List (Str × Nat)} {sl : List Nat} {mi : DM (List D)} {gm : D → SE → R Unit} {me : DM RV}
theorem NoEx.of (h : DG X M tg sl gm) : NoEx gm := h.1
/-- [elt for tg in iter if ..] -/
theorem de_lc (hi : DI X M W tg iter mi) (own : List (Str × Nat)) (ok : BlkOk X.N X.env.scope scope own) (nx : NoEx gm)
    (hg : ∀ (s : Shared) (H : Hp) (C : Addr) (cl : List (Str × Addr)) (fp : List Addr), DG (X.blk s H scope (compEnvC scope cl C X.env) fp) M tg sl gm) (ht : ∀ (s : Shared) (H : Hp) (C : Addr) (cl : List (Str × Addr)) (fp : List Addr), DTs (X.blk s H scope (compEnvC scope cl C X.env) fp) M W0 ifs mt)
    (he : ∀ (s : Shared) (H : Hp) (C : Addr) (cl : List (Str × Addr)) (fp : List Addr), DE (X.blk s H scope (compEnvC scope cl C X.env) fp) M W0 elt me) (hN : X.N.Nodup) (hc : X.calm = true := by rfl) (hsl : ∀ i ∈ sl, i ∈ own.map (·.2) := by decide) (hs : ∀ x, foldedSetIterable iter X.env x = pure x := by intro _; rfl) :
    DE X M W (.ListComp elt [⟨tg, iter, ifs, 0⟩] scope pos) (dLc (own.map (·.2)) mi gm mt me) := by
  obtain ⟨ti, pi, qi⟩ := hi
  refine ⟨_, pe_lc hc hN pi ok (fun s H C cl fp => (hg s H C cl fp).can) (fun s H C cl fp => (ht s H C cl fp).can) (fun s H C cl fp => (he s H C cl fp).can) hs, ?_⟩
  exact q_lc hsl nx qi (fun v d σ H F ρ Q sm r z => ⟨d, F, ρ, sm, r, z⟩) (fun σ H F ρ Q sm po => ⟨F, ρ, sm, po⟩) (fun σ H F ρ Q sm po => ⟨F, ρ, sm, po⟩)
/-- name = [..] -/
theorem ds_setLc {i : Nat} {y : Str} {py spos : Pos} (hi : DI X M W tg iter mi) (own : List (Str × Nat)) (ok : BlkOk X.N X.env.scope scope own) (nx : NoEx gm)
    (hg : ∀ (s : Shared) (H : Hp) (C : Addr) (cl : List (Str × Addr)) (fp : List Addr), DG (X.blk s H scope (compEnvC scope cl C X.env) fp) M tg sl gm) (ht : ∀ (s : Shared) (H : Hp) (C : Addr) (cl : List (Str × Addr)) (fp : List Addr), DTs (X.blk s H scope (compEnvC scope cl C X.env) fp) M W0 ifs mt)
    (he : ∀ (s : Shared) (H : Hp) (C : Addr) (cl : List (Str × Addr)) (fp : List Addr), DE (X.blk s H scope (compEnvC scope cl C X.env) fp) M W0 elt me) (hN : X.N.Nodup) (hsw : swapsWith (.ListComp elt [⟨tg, iter, ifs, 0⟩] scope pos) (some (.Name y py)) spos.line X.env = pure true) (hy : X.N[i]? = some y := by rfl) (hyl : X.env.scope.names.lookup y = some .local := by rfl) (hc : X.calm = true := by rfl) (hsl : ∀ i ∈ sl, i ∈ own.map (·.2) := by decide) (hs : ∀ x, foldedSetIterable iter X.env x = pure x := by intro _; rfl) :
    DS X M W (.Assign [.Name y py] (.ListComp elt [⟨tg, iter, ifs, 0⟩] scope pos) spos) (sSet i (dLc (own.map (·.2)) mi gm mt me)) := by
  obtain ⟨ti, pi, qi⟩ := hi
  refine ⟨_, ps_setLc hc hN hy hyl hsw pi ok (fun s H C cl fp => (hg s H C cl fp).can) (fun s H C cl fp => (ht s H C cl fp).can) (fun s H C cl fp => (he s H C cl fp).can) hs, ?_⟩
  exact q_set (q_lc hsl nx qi (fun v d σ H F ρ Q sm r z => ⟨d, F, ρ, sm, r, z⟩) (fun σ H F ρ Q sm po => ⟨F, ρ, sm, po⟩) (fun σ H F ρ Q sm po => ⟨F, ρ, sm, po⟩))
end
end DL

/- part -/
set_option Elab.async false
set_option linter.all false
set_option maxRecDepth 100000
set_option maxHeartbeats 4000000
namespace DL
open PySem PySem.Spec PyProof.Rows L2
/-- a def that can be called by its name -/
structure Cal (P : Program) (w : World) (base : Heap) (M : Mx) (x : Str) (k n : Nat) (m : SE → R RV) where
  f : Addr
  fd : FuncData
  ps : List Str
  g : M.mg x = some (.ref f)
  kp : PySem.W.keepIn M.K (.ref f) = true
  b : Binds M.K fd ps []
  ok : FnOk P w M.K M.mg base (L2.CX P w) k f fd ps (spD M n m)
/-- where one stands: N the names, sc the scope, j the room -/
structure CxD (P : Program) (w : World) (base : Heap) (M : Mx) (N : List Str) (sc : Scope) (j : Nat) (X : Cx) (W : WX) : Prop where
  hP : X.prog = P
  hw : X.w = w
  hB : X.base = base
  hK : M.K = X.K
  hM : M.mg = X.mg
  hN : X.N = N
  hs : X.env.scope = sc
  hf : sc.kind = .function
  nd : N.Nodup
  cm : X.calm = true
  hr : Room j X.A
  tk : Takes X W
/-- .. in a def's own body -/
structure CxF (P : Program) (w : World) (base : Heap) (M : Mx) (N : List Str) (sc : Scope) (j : Nat) (X : Cx) (W : WX) : Prop extends CxD P w base M N sc j X W where
  fn : ∀ x, X.fn x = true
  ps : PassesOwn (model X.prog X.w) X.A X.env X.xe
structure NameOk (sc : Scope) (x : Str) : Prop where
  vis : Vis sc x
  nd : (x == ("__debug__" : Str)) = false
  nc : (x == ("__classdict__" : Str)) = false
structure GlOk (sc : Scope) (x : Str) : Prop where
  gl : sc.names.lookup x = some .globalImplicit
  nd : (x == ("__debug__" : Str)) = false
  nn : x ≠ "__name__"
/-- x may be stored -/
structure StOk (X : Cx) (x : Str) : Prop where
  loc : Loc X.env.scope x
  fn : X.fn x = true ∨ X.env.scope.names.lookup x = some .local
theorem hu64 {k : Nat} {A : Around} (hr : Room k A) : A.units + 64 < cLine := hr.units
theorem hu65 {k : Nat} {A : Around} (hr : Room k A) : A.units + 65 < cLine := by
  have := hr.un
  omega
section
variable {P : Program} {w : World} {base : Heap} {N : List Str} {sc : Scope} {j : Nat}
variable {M : Mx} {W : WX} {X : Cx} {F H F' H' F1 H1 F2 H2 H0 : Hp} {σ σ1 : L2.St} {ρ ρ1 ρ2 : SE}
variable {a b c e tg k : Expr} {ma mb mc m mk : DM RV} {mt mu : DM Bool} {es : List Expr} {pos pos' p p' tpos : Pos} {mv mi : DM (List D)} {ms : DM (List AV)} {x : Str} {sl : List Nat} {gm : D → SE → R Unit} {s : DM Fl}
theorem CxD.u64 (C : CxD P w base M N sc j X W) : X.A.units + 64 < cLine := hu64 C.hr
theorem CxD.u65 (C : CxD P w base M N sc j X W) : X.A.units + 65 < cLine := hu65 C.hr
theorem CxD.ix (C : CxD P w base M N sc j X W) {i : Nat} (h : N[i]? = some x) : X.N[i]? = some x := by
  rw [C.hN]
  exact h
theorem CxD.nd' (C : CxD P w base M N sc j X W) : X.N.Nodup := by
  rw [C.hN]
  exact C.nd
theorem CxD.glo (C : CxD P w base M N sc j X W) (h : GlOk sc x) : Gl X x := by
  show X.env.scope.names.lookup x = _
  rw [C.hs]
  exact h.gl
theorem CxF.st (C : CxF P w base M N sc j X W) (h : Loc sc x) : StOk X x := ⟨by rw [C.hs]; exact h, .inl (C.fn x)⟩
theorem CxD.stl (C : CxD P w base M N sc j X W) (h : sc.names.lookup x = some .local) : StOk X x := ⟨by rw [C.hs]; exact .inl h, .inr (by rw [C.hs]; exact h)⟩
/-- in a comprehension's block -/
theorem CxD.blk (C : CxD P w base M N sc j X W) {csc : Scope} (hk : csc.kind = .function) (s : Shared) (H : Hp) (Ca : Addr) (cl : List (Str × Addr)) (fp : List Addr) : CxD P w base M N (L2.relS csc sc) j (X.blk s H csc (compEnvC csc cl Ca X.env) fp) W0 :=
  ⟨C.hP, C.hw, C.hB, C.hK, C.hM, C.hN, by
    show L2.relS csc X.env.scope = _
    rw [C.hs], hk, C.nd, C.cm, C.hr, L2.takes0⟩
theorem cxF_of {E : XK} {qual : Str} {f : Addr} {cd : Value} {A : Around} {outer : List Env} {s : Shared} {H : Hp} {ps : List Str} (S : FnScope N ps sc) (hr : Room j (A.deeper (envOfC qual sc s.heap.objs.size f cd))) :
    CxF P w base M N sc j (cxOf (L2.CX P w) P w M.K M.mg base N qual sc f cd A outer s H E) (fun cls d _ H' => E cls d H') :=
  ⟨⟨rfl, rfl, rfl, rfl, rfl, rfl, rfl, S.kind, S.nd, rfl, hr, takes_of rfl rfl rfl rfl⟩, fun _ => rfl, passes_of rfl⟩
/-! ### the rules, by where one stands -/
theorem de_v (C : CxD P w base M N sc j X W) (i : Nat) (h : NameOk sc x) (hi : N[i]? = some x := by rfl) : DE X M W (.Name x p) (dVar i) := de_var i (C.ix hi) (by rw [C.hs]; exact h.vis) h.nd h.nc
theorem da_v (C : CxD P w base M N sc j X W) (i : Nat) (h : NameOk sc x) (hs : DA X M W es ms) (hi : N[i]? = some x := by rfl) (hst : starEach (.Name x p :: es) X.env = (false, eval (.Name x p) X.env) :: starEach es X.env := by rfl) : DA X M W (.Name x p :: es) (aIo i ms) := da_io i hs (C.ix hi) (by rw [C.hs]; exact h.vis) h.nd h.nc hst
theorem dg_v (C : CxD P w base M N sc j X W) (i : Nat) (h : StOk X x) (hi : N[i]? = some x := by rfl) : DG X M (.Name x p) [i] (tgName i) := dg_name i C.nd' (C.ix hi) h.loc h.fn
theorem ds_v (C : CxD P w base M N sc j X W) (i : Nat) (h : StOk X x) (he : DE X M W e m) (hi : N[i]? = some x := by rfl) (hs : swapsWith e (some (.Name x pos')) pos.line X.env = pure false := by rfl) : DS X M W (.Assign [.Name x pos'] e pos) (sSet i m) := ds_set he C.nd' (C.ix hi) h.loc hs h.fn
theorem ds_ixv (C : CxD P w base M N sc j X W) (i : Nat) (h : NameOk sc x) (he : DE X M W e m) (hk : DE X M W k mk) (hi : N[i]? = some x := by rfl)
    (ha : ∀ v, assign (.Subscript (.Name x p') k tpos) X.env v = (do
      let ov ← holding [v] (eval (.Name x p') X.env)
      let iv ← holding [v, ov] (eval k X.env)
      standAt tpos
      holding [v, ov, iv] (setItem ov iv v)
      release [v, ov, iv] []) := by intro _; rfl) (hs : swapsWithSole [.Subscript (.Name x p') k tpos] e pos.line X.env = pure false := by rfl) (hw : swappedStores [.Subscript (.Name x p') k tpos] e X.env = pure none := by rfl)
    (h1 : (assignEach [.Subscript (.Name x p') k tpos] X.env).map (·.2) = [assign (.Subscript (.Name x p') k tpos) X.env] := by rfl) : DS X M W (.Assign [.Subscript (.Name x p') k tpos] e pos) (sSub i mk m) := ds_sub he hk (C.ix hi) (by rw [C.hs]; exact h.vis) h.nd h.nc ha hs hw h1
theorem ds_addv (C : CxD P w base M N sc j X W) (i : Nat) (h : StOk X x) (he : DE X M W e m) (hi : N[i]? = some x := by rfl) : DS X M W (.AugAssign (.Name x pos') .Add e pos) (sAug i addI m) := ds_aug ip_add ip2_add he C.nd' (C.ix hi) h.loc h.fn
theorem ds_subv (C : CxD P w base M N sc j X W) (i : Nat) (h : StOk X x) (he : DE X M W e m) (hi : N[i]? = some x := by rfl) : DS X M W (.AugAssign (.Name x pos') .Sub e pos) (sAug i subD m) := ds_aug ip_sub ip2_sub he C.nd' (C.ix hi) h.loc h.fn
theorem ds_mulv (C : CxD P w base M N sc j X W) (i : Nat) (h : StOk X x) (he : DE X M W e m) (hi : N[i]? = some x := by rfl) : DS X M W (.AugAssign (.Name x pos') .Mult e pos) (sAug i mulD m) := ds_aug ip_mulW ip2_mul he C.nd' (C.ix hi) h.loc h.fn
theorem swapped2 {env : Env} {x y : Str} {px py pt pt2 : Pos} {kt k2} (hf : env.scope.kind = .function) (hx : env.scope.names.lookup x = some .local) (hy : env.scope.names.lookup y = some .local) (hl : (py.line == px.line) = true) (hne : (y == x) = false)
    (h1 : ∀ v q, a ≠ .Starred v q) (h2 : ∀ v q, b ≠ .Starred v q) (h3 : [a, b].all (foldedForSure 8) = false) (h4 : [a, b].all (constantsAlone 8) = false) :
    swappedStores [.Tuple [.Name x px, .Name y py] kt pt] (.Tuple [a, b] k2 pt2) env = pure (some [x, y]) := by
  have hb : env.blockKind = .function := by
    unfold Env.blockKind
    rw [hf]
    rfl
  have kx : env.kindOf x = some .local := hx
  have ky : env.kindOf y = some .local := hy
  have hl' : py.line = px.line := eq_of_beq hl
  have hne' : ¬ y = x := fun z => by
    rw [z] at hne
    simp at hne
  unfold swappedStores
  simp only [hb, h3, h4]
  rw [if_neg (by simp), if_neg]
  · simp [kx, ky, Expr.pos, hl', List.eraseDups_cons, hne']
  · intro hh
    simp only [List.any_cons, List.any_nil, Bool.or_false, Bool.or_eq_true] at hh
    rcases hh with hh | hh <;> split at hh <;> first
      | exact h1 _ _ rfl
      | exact h2 _ _ rfl
      | cases hh
theorem ds_parv {x y : Str} {px py pt : Pos} {kt k2 pt2} (C : CxD P w base M N sc j X W) (i l : Nat) (hx : sc.names.lookup x = some .local) (hy : sc.names.lookup y = some .local) (hl : (py.line == px.line) = true) (hne : (y == x) = false) (ha : DA X M W [a, b] ms) (hi : N[i]? = some x := by rfl) (hj : N[l]? = some y := by rfl) (hij : i ≠ l := by decide)
    (h1 : ∀ v q, a ≠ .Starred v q := by intro _ _ z; cases z) (h2 : ∀ v q, b ≠ .Starred v q := by intro _ _ z; cases z) (h3 : [a, b].all (foldedForSure 8) = false := by rfl) (h4 : [a, b].all (constantsAlone 8) = false := by rfl)
    (hs : swapsWithSole [.Tuple [.Name x px, .Name y py] kt pt] (.Tuple [a, b] k2 pt2) pos.line X.env = pure false := by rfl) : DS X M W (.Assign [.Tuple [.Name x px, .Name y py] kt pt] (.Tuple [a, b] k2 pt2) pos) (sPar i l ms) :=
  ds_par ha C.cm C.nd' (C.ix hi) (C.ix hj) hij (by rw [C.hs]; exact hx) (by rw [C.hs]; exact hy) (swapped2 (by rw [C.hs]; exact C.hf) (by rw [C.hs]; exact hx) (by rw [C.hs]; exact hy) hl hne h1 h2 h3 h4) hs
theorem de_callC {k n : Nat} {mm : SE → R RV} (C : CxD P w base M N sc j X W) (Ca : Cal P w base M x k n mm) (g : GlOk sc x) (hk : k ≤ j) (ha : DA X M W (a :: es) ms)
    (he : starEach (a :: es) X.env = (false, eval a X.env) :: starEach es X.env := by rfl) (hpl : (backTo pos (starEach es X.env)).any (·.1) = false := by rfl) :
    DE X M W (.Call (.Name x p) (a :: es) [] pos) (dCall n [] mm ms) := by
  obtain ⟨f, fd, ps, g', kp, b, ok⟩ := Ca
  have hP := C.hP
  have hw := C.hw
  have hB := C.hB
  subst hP hw hB
  rw [C.hK, C.hM] at ok
  rw [C.hK] at kp b
  rw [C.hM] at g'
  exact de_call ok (C.hr.mono hk) g' kp b C.tk ha (C.glo g) g.nd he hpl
/-- xs.m(e, ..) of a list in a slot -/
theorem de_lm {mname : Str} {r : V → List V → Hp → VK → Prop} {g : List D → List D → Option (D × List D)} (C : CxD P w base M N sc j X W) (i : Nat) (h : NameOk sc x) (o : LmOk M r g) (he : ∀ (to : TE) (t : TA), PE X (.Name x p') to → PA X (a :: es) t → PE X (.Call (.Attribute (.Name x p') mname p) (a :: es) [] pos) (tBM X.K "list" r to t)) (ha : DA X M W (a :: es) ms) (hi : N[i]? = some x := by rfl) :
    DE X M W (.Call (.Attribute (.Name x p') mname p) (a :: es) [] pos) (lmD i g ms) := by
  obtain ⟨t, pa, qa⟩ := ha
  exact ⟨_, he _ _ (pe_var (C.ix hi) (by rw [C.hs]; exact h.vis) h.nd h.nc) pa, C.hK ▸ q_lm qa o⟩
theorem q_lm0 {r : V → List V → Hp → VK → Prop} {g : List D → List D → Option (D × List D)} {i : Nat} (o : LmOk M r g) : ∀ σ H F ρ Q, Sim M F H σ ρ → Post M W σ ρ F H (lmD i g aNil ρ) Q → tBM0 M.K "list" r (tVar i) σ H Q := fun σ H F ρ Q sm h => by
  unfold lmD aNil at h
  split at h
  · rename_i io0 ds0 e0
    obtain ⟨x, vs0, e1, h1, nF, r1⟩ := sm.owl i io0 ds0 e0
    refine ⟨.ref x, e1, .inl ⟨rfl, vs0, .inl (.inl h1)⟩, ?_⟩
    have h : Post M W σ ρ F H (match ρ[i]?, avD [] with
      | some (.ow io (.ls ds)), some xs => (match g ds xs with
        | some (d, es) => .ok (.im d) (ρ.set i (.ow io (.ls es)))
        | none => .bad)
      | _, _ => .bad) Q := h
    rw [e0] at h
    have h : Post M W σ ρ F H (match g ds0 [] with
        | some (d, es) => .ok (.im d) (ρ.set i (.ow io0 (.ls es)))
        | none => .bad) Q := h
    cases e5 : g ds0 [] with
    | none =>
      rw [e5] at h
      exact h.elim
    | some q =>
      obtain ⟨d, es⟩ := q
      rw [e5] at h
      refine o F H x vs0 [] ds0 [] d es Q h1 r1 .nil e5 fun v ws rv rw' => ?_
      obtain ⟨st2, sm2⟩ := upd_ok (Stp.refl F H σ ρ) sm e0 e1 rw'
      exact h F _ v st2 sm2 rv
  · exact h.elim
theorem de_lm0 {mname : Str} {r : V → List V → Hp → VK → Prop} {g : List D → List D → Option (D × List D)} (C : CxD P w base M N sc j X W) (i : Nat) (h : NameOk sc x) (o : LmOk M r g) (he : ∀ to : TE, PE X (.Name x p') to → PE X (.Call (.Attribute (.Name x p') mname p) [] [] pos) (tBM0 X.K "list" r to)) (hi : N[i]? = some x := by rfl) :
    DE X M W (.Call (.Attribute (.Name x p') mname p) [] [] pos) (lmD i g aNil) :=
  ⟨_, he _ (pe_var (C.ix hi) (by rw [C.hs]; exact h.vis) h.nd h.nc), C.hK ▸ q_lm0 o⟩
/-! built-in names -/
theorem de_cbF {id : String} {r : List V → Hp → VK → Prop} {g : List D → Option RV} (C : CxD P w base M N sc j X W) (hc : CallR X (.builtin id) r) (o : CbOk M r g) (hv : bootBuiltins x = some (.builtin id)) (h : GlOk sc x) (hm : M.mg x = none) (ha : DV X M W (a :: es) mv)
    (he : starEach (a :: es) X.env = (false, eval a X.env) :: starEach es X.env := by rfl) (hpl : (backTo pos (starEach es X.env)).any (·.1) = false := by rfl) : DE X M W (.Call (.Name x p) (a :: es) [] pos) (dCb g mv) := de_cb hc o hv ha (by rw [← C.hM]; exact hm) (C.glo h) h.nn h.nd he hpl
theorem de_ctyF {T : String} {r : List V → Hp → VK → Prop} {g : List D → Option RV} (C : CxD P w base M N sc j X W) (hc : CallR X (.type T) r) (o : CbOk M r g) (hv : bootBuiltins x = some (.type T)) (h : GlOk sc x) (hm : M.mg x = none) (ha : DV X M W (a :: es) mv)
    (he : starEach (a :: es) X.env = (false, eval a X.env) :: starEach es X.env := by rfl) (hpl : (backTo pos (starEach es X.env)).any (·.1) = false := by rfl) : DE X M W (.Call (.Name x p) (a :: es) [] pos) (dCb g mv) := de_cty hc o hv ha (by rw [← C.hM]; exact hm) (C.glo h) h.nn h.nd he hpl
theorem de_lenF (C : CxD P w base M N sc j X W) (h : GlOk sc "len") (hm : M.mg "len" = none) (ha : DV X M W [a] mv) (he : starEach [a] X.env = (false, eval a X.env) :: starEach [] X.env := by rfl) : DE X M W (.Call (.Name "len" p) [a] [] pos) (dCb gLen mv) := de_cbF C call_len (C.hK ▸ cb_len) PySem.boot_len h hm ha he
theorem de_absF (C : CxD P w base M N sc j X W) (h : GlOk sc "abs") (hm : M.mg "abs" = none) (ha : DV X M W [a] mv) (he : starEach [a] X.env = (false, eval a X.env) :: starEach [] X.env := by rfl) : DE X M W (.Call (.Name "abs" p) [a] [] pos) (dCb gAbs mv) := de_cbF C call_abs cb_abs (by decide +kernel) h hm ha he
theorem de_listF (C : CxD P w base M N sc j X W) (h : GlOk sc "list") (hm : M.mg "list" = none) (ha : DV X M W [a] mv) (he : starEach [a] X.env = (false, eval a X.env) :: starEach [] X.env := by rfl) : DE X M W (.Call (.Name "list" p) [a] [] pos) (dCb gList mv) := de_ctyF C call_list_of (C.hK ▸ cb_list) (by decide +kernel) h hm ha he
theorem de_tupleF (C : CxD P w base M N sc j X W) (h : GlOk sc "tuple") (hm : M.mg "tuple" = none) (ha : DV X M W [a] mv) (he : starEach [a] X.env = (false, eval a X.env) :: starEach [] X.env := by rfl) : DE X M W (.Call (.Name "tuple" p) [a] [] pos) (dCb gTuple mv) := de_ctyF C call_tuple_of (C.hK ▸ cb_tuple) (by decide +kernel) h hm ha he
theorem de_allF (C : CxD P w base M N sc j X W) (h : GlOk sc "all") (hm : M.mg "all" = none) (ha : DV X M W [a] mv) (he : starEach [a] X.env = (false, eval a X.env) :: starEach [] X.env := by rfl) : DE X M W (.Call (.Name "all" p) [a] [] pos) (dCb gAll mv) := de_cbF C (cr_all C.cm) (C.hK ▸ cb_all) (by decide +kernel) h hm ha he
theorem de_anyF (C : CxD P w base M N sc j X W) (h : GlOk sc "any") (hm : M.mg "any" = none) (ha : DV X M W [a] mv) (he : starEach [a] X.env = (false, eval a X.env) :: starEach [] X.env := by rfl) : DE X M W (.Call (.Name "any" p) [a] [] pos) (dCb gAny mv) := de_cbF C (cr_any C.cm) (C.hK ▸ cb_any) (by decide +kernel) h hm ha he
theorem de_strF (C : CxD P w base M N sc j X W) (h : GlOk sc "str") (hm : M.mg "str" = none) (ha : DV X M W [a] mv) (he : starEach [a] X.env = (false, eval a X.env) :: starEach [] X.env := by rfl) : DE X M W (.Call (.Name "str" p) [a] [] pos) (dCb gStr mv) := de_ctyF C call_str_int cb_str (by decide +kernel) h hm ha he
theorem de_intF (C : CxD P w base M N sc j X W) (h : GlOk sc "int") (hm : M.mg "int" = none) (ha : DV X M W [a] mv) (he : starEach [a] X.env = (false, eval a X.env) :: starEach [] X.env := by rfl) : DE X M W (.Call (.Name "int" p) [a] [] pos) (dCb gInt mv) := de_ctyF C call_int_str cb_int (by decide +kernel) h hm ha he
/-! walked things -/
theorem di_range1F (C : CxD P w base M N sc j X W) (h : GlOk sc "range") (hm : M.mg "range" = none) (ha : DV X M W [a] mv) (hs : starEach [a] X.env = [(false, eval a X.env)] := by rfl) : DI X M W tg (.Call (.Name "range" p) [a] [] pos) (iRange1 mv) := di_range1 ha (by rw [← C.hM]; exact hm) (C.glo h) hs
theorem di_range2F (C : CxD P w base M N sc j X W) (h : GlOk sc "range") (hm : M.mg "range" = none) (ha : DV X M W [a, b] mv) (hs : starEach [a, b] X.env = [(false, eval a X.env), (false, eval b X.env)] := by rfl) (hs2 : starEach [b] X.env = [(false, eval b X.env)] := by rfl) : DI X M W tg (.Call (.Name "range" p) [a, b] [] pos) (iRange2 mv) := di_range2 ha (by rw [← C.hM]; exact hm) (C.glo h) hs hs2
theorem di_zipF {elts : List Expr} {kk : Nat} (C : CxD P w base M N sc j X W) (h : GlOk sc "zip") (hm : M.mg "zip" = none) (ha : DA X M W [a, b] ms) (hs : starEach [a, b] X.env = (false, eval a X.env) :: starEach [b] X.env := by rfl) (hpl : (backTo pos (starEach [b] X.env)).any (·.1) = false := by rfl) :
    DI X M W (.Tuple elts kk tpos) (.Call (.Name "zip" p) [a, b] [] pos) (iZip2 ms) := di_zip ha (by rw [← C.hM]; exact hm) (C.glo h) hs hpl C.hK
theorem di_enumF {elts : List Expr} {kk : Nat} (C : CxD P w base M N sc j X W) (h : GlOk sc "enumerate") (hm : M.mg "enumerate" = none) (ha : DA X M W [a] ms) (hs : starEach [a] X.env = [(false, eval a X.env)] := by rfl) :
    DI X M W (.Tuple elts kk tpos) (.Call (.Name "enumerate" p) [a] [] pos) (iEnum1 ms) := di_enum ha (by rw [← C.hM]; exact hm) (C.glo h) hs C.hK
theorem de_lcF {elt iter : Expr} {ifs : List Expr} {csc : Scope} {me : DM RV} (C : CxD P w base M N sc j X W) (own : List (Str × Nat)) (ok : BlkOk N sc csc own) (nx : NoEx gm) (hi : DI X M W tg iter mi)
    (hg : ∀ (s : Shared) (H : Hp) (Ca : Addr) (cl : List (Str × Addr)) (fp : List Addr), DG (X.blk s H csc (compEnvC csc cl Ca X.env) fp) M tg sl gm) (ht : ∀ (s : Shared) (H : Hp) (Ca : Addr) (cl : List (Str × Addr)) (fp : List Addr), DTs (X.blk s H csc (compEnvC csc cl Ca X.env) fp) M W0 ifs mt)
    (he : ∀ (s : Shared) (H : Hp) (Ca : Addr) (cl : List (Str × Addr)) (fp : List Addr), DE (X.blk s H csc (compEnvC csc cl Ca X.env) fp) M W0 elt me) (hsl : ∀ i ∈ sl, i ∈ own.map (·.2) := by decide) (hs : ∀ x, foldedSetIterable iter X.env x = pure x := by intro _; rfl) :
    DE X M W (.ListComp elt [⟨tg, iter, ifs, 0⟩] csc pos) (dLc (own.map (·.2)) mi gm mt me) := de_lc hi own (by rw [C.hN, C.hs]; exact ok) nx hg ht he C.nd' C.cm hsl hs
theorem ds_setLcF {y : Str} {elt iter : Expr} {ifs : List Expr} {csc : Scope} {me : DM RV} {py spos : Pos} (C : CxD P w base M N sc j X W) (i : Nat) (hyl : sc.names.lookup y = some .local) (hl : (py.line == pos.line) = true) (hcl : (csc.names.any fun (n, k) => n == y && (k == .local || k == .cell)) = false) (own : List (Str × Nat)) (ok : BlkOk N sc csc own) (nx : NoEx gm) (hi : DI X M W tg iter mi)
    (hg : ∀ (s : Shared) (H : Hp) (Ca : Addr) (cl : List (Str × Addr)) (fp : List Addr), DG (X.blk s H csc (compEnvC csc cl Ca X.env) fp) M tg sl gm) (ht : ∀ (s : Shared) (H : Hp) (Ca : Addr) (cl : List (Str × Addr)) (fp : List Addr), DTs (X.blk s H csc (compEnvC csc cl Ca X.env) fp) M W0 ifs mt)
    (he : ∀ (s : Shared) (H : Hp) (Ca : Addr) (cl : List (Str × Addr)) (fp : List Addr), DE (X.blk s H csc (compEnvC csc cl Ca X.env) fp) M W0 elt me) (hy : N[i]? = some y := by rfl) (hsl : ∀ i ∈ sl, i ∈ own.map (·.2) := by decide) (hs : ∀ x, foldedSetIterable iter X.env x = pure x := by intro _; rfl) :
    DS X M W (.Assign [.Name y py] (.ListComp elt [⟨tg, iter, ifs, 0⟩] csc pos) spos) (sSet i (dLc (own.map (·.2)) mi gm mt me)) :=
  ds_setLc hi own (by rw [C.hN, C.hs]; exact ok) nx hg ht he C.nd' (sw_true (by rw [C.hs]; exact C.hf) (by rw [C.hs]; exact hyl) hl hcl) (C.ix hy) (by rw [C.hs]; exact hyl) C.cm hsl hs
end
end DL

/- part -/
set_option Elab.async false
set_option linter.all false
set_option maxRecDepth 100000
set_option maxHeartbeats 1000000
namespace DL
open PySem PySem.Spec PyProof.Rows L2
/-! ### isinstance -/
def tyO : D → Option String
  | .non => some "NoneType" | .bl _ => some "bool" | .int _ => some "int" | .str _ => some "str" | .tup _ => some "tuple" | .lst _ => some "list" | .scr _ => some "list" | _ => none
def isT (a b : String) : Bool := a == b || (a == "bool" && b == "int")
def isiD (T : String) (d : D) : Option RV := (tyO d).map fun t => .im (.bl (isT t T))
def isiD2 (T U : String) (d : D) : Option RV := (tyO d).map fun t => .im (.bl (isT t T || isT t U))
def tyNs : List String := ["NoneType", "bool", "int", "str", "tuple", "list"]
def KitT (T : String) : Prop := ∀ a ∈ tyNs, kitB a T = some (isT a T)
theorem kit_list : KitT "list" := by unfold KitT; decide +kernel
theorem kit_tuple : KitT "tuple" := by unfold KitT; decide +kernel
theorem kit_int : KitT "int" := by unfold KitT; decide +kernel
theorem kit_bool : KitT "bool" := by unfold KitT; decide +kernel
theorem kit_str : KitT "str" := by unfold KitT; decide +kernel
theorem tyO_mem {d : D} {t : String} (h : tyO d = some t) : t ∈ tyNs := by
  cases d <;> cases h <;> simp [tyNs]
section
variable {M : Mx} {F H F' H' F1 H1 F2 H2 H0 : Hp}
theorem tyx_of {v : V} {d : D} {t : String} (sub : SubF F H) (h : Vw M F H v d) (e : tyO d = some t) : TyX M.K H v (.type t) := by
  cases d with
  | non =>
    cases e
    rw [vw_non h]
    exact .base .non
  | bl b =>
    cases e
    rw [vw_bl h]
    exact .base (.bl _)
  | int i =>
    cases e
    rw [vw_int h]
    exact .base (.int _)
  | str x =>
    cases e
    rw [vw_str h]
    exact .base (.str _)
  | tup ds =>
    cases e
    obtain ⟨a, vs, e1, h1, _⟩ := vw_tup h
    subst e1
    rcases h1 with (h1 | ⟨o, h1⟩) | ⟨o, its, n, h1, h2, _⟩
    · exact .base (.tup (sub.go _ _ h1))
    · exact .fTuple (sub.go _ _ h1)
    · exact .kTuple h1 h2
  | lst ds =>
    cases e
    obtain ⟨a, vs, e1, h1, _⟩ := h
    subst e1
    exact .base (.lst h1)
  | scr ns =>
    cases e
    cases h with
    | scr h1 =>
      rcases h1 with (h1 | ⟨o, h1⟩) | ⟨o, its, n, h1, h2, _⟩
      · exact .base (.lst (sub.go _ _ h1))
      · exact .base (.frz (sub.go _ _ h1))
      · exact .kList h1 h2
  | obj c fs => cases e
  | fn x => cases e
  | exc c fs => cases e
  | tl n ds => cases e
theorem tyx_same {v : V} {t : Value} {K : PySem.W.Frag} (sub : Same H H') (h : TyX K H v t) : TyX K H' v t := by
  cases h with
  | base b =>
    refine .base ?_
    cases b with
    | non => exact .non
    | bl x => exact .bl x
    | int i => exact .int i
    | str x => exact .str x
    | flt x => exact .flt x
    | lst e => exact .lst (sub _ _ e)
    | frz e => exact .frz (sub _ _ e)
    | tup e => exact .tup (sub _ _ e)
    | dK e => exact .dK (sub _ _ e)
    | dT e => exact .dT (sub _ _ e)
    | ins e cl ha hn htk hm => exact .ins (sub _ _ e) cl ha hn htk hm
  | byt b => exact .byt b
  | set e => exact .set (sub _ _ e)
  | kList e c => exact .kList e c
  | kTuple e c => exact .kTuple e c
  | kDict e c => exact .kDict e c
  | fTuple e => exact .fTuple (sub _ _ e)
  | fDict e => exact .fDict (sub _ _ e)
end
section
variable {P : Program} {w : World} {base : Heap} {N : List Str} {sc : Scope} {j : Nat}
variable {M : Mx} {W : WX} {X : Cx} {F H F' H' F1 H1 F2 H2 H0 : Hp} {σ σ1 : L2.St} {ρ ρ1 ρ2 : SE}
variable {a b c e tg k : Expr} {ma mb mc m mk : DM RV} {es : List Expr} {pos pos' p p' p2 p3 tpos : Pos} {ms : DM (List AV)} {x y z : Str} {kt : Nat}
theorem fin_ok {o : Option RV} {Q : VK} {rv : RV} {v : V} (h : Post M W σ ρ F H (ofO o ρ1) Q) (st : Stp F H σ ρ F1 H1 σ ρ1) (sm : Sim M F1 H1 σ ρ1) (e : o = some rv) (al : Alc F1 H1 F' H') (nw : RvNew M H1 F' H' v rv) : Q v H' := by
  obtain ⟨rv', e', k⟩ := Post.fin' h st sm
  rw [e] at e'
  cases e'
  exact k _ _ _ al nw
theorem de_isiF (C : CxD P w base M N sc j X W) {T : String} (h : GlOk sc "isinstance") (hm : M.mg "isinstance" = none) (h2 : GlOk sc x) (hm2 : M.mg x = none) (hv : bootBuiltins x = some (.type T)) (hk : KitT T) (ha : DE X M W a ma)
    (hs : starEach (a :: [.Name x p']) X.env = (false, eval a X.env) :: starEach [.Name x p'] X.env := by rfl) (hpl : (backTo pos (starEach [.Name x p'] X.env)).any (·.1) = false := by rfl) :
    DE X M W (.Call (.Name "isinstance" p) [a, .Name x p'] [] pos) (dOp1 (isiD T) ma) := by
  obtain ⟨ta, pa, qa⟩ := ha
  have hm' : X.mg "isinstance" = none := by rw [← C.hM]; exact hm
  have hm2' : X.mg x = none := by rw [← C.hM]; exact hm2
  refine ⟨_, pe_callB call_isi (C.glo h) hm' PyProof.Rows.boot_isinstance (pa_cons pa (pa_cons (pe_bltn (v := .ty T) (C.glo h2) hm2' hv rfl h2.nn h2.nd) pa_nil rfl) hs) h.nn h.nd hs hpl, fun σ H F ρ Q sm h => ?_⟩
  refine qa σ H F ρ _ sm (Post.go h fun v ρ1 F1 H1 u _ st1 sm1 ok1 h1 => ?_)
  obtain ⟨rv, e, k⟩ := Post.fin' h1 st1 sm1
  obtain ⟨d, l1, hg⟩ := bind_some1 e
  have vw := ok1.view0 sm1 l1
  unfold isiD at hg
  cases et : tyO d with
  | none =>
    rw [et] at hg
    cases hg
  | some t =>
    rw [et] at hg
    cases hg
    have ty := tyx_of sm1.sub vw et
    rw [C.hK] at ty
    exact ⟨_, _, _, _, _, rfl, .ty T, ty, kit_ty (hk t (tyO_mem et)), k _ _ _ (Alc.refl sm1.sub) RvNew.bl⟩
theorem de_isi2F (C : CxD P w base M N sc j X W) {T U : String} (h : GlOk sc "isinstance") (hm : M.mg "isinstance" = none) (h2 : GlOk sc x) (hm2 : M.mg x = none) (hv : bootBuiltins x = some (.type T)) (hk : KitT T) (h3 : GlOk sc y) (hm3 : M.mg y = none) (hv3 : bootBuiltins y = some (.type U)) (hk3 : KitT U) (ha : DE X M W a ma)
    (hs : starEach (a :: [.Tuple [.Name x p', .Name y p2] kt p3]) X.env = (false, eval a X.env) :: starEach [.Tuple [.Name x p', .Name y p2] kt p3] X.env := by rfl) (hpl : (backTo pos (starEach [.Tuple [.Name x p', .Name y p2] kt p3] X.env)).any (·.1) = false := by rfl) :
    DE X M W (.Call (.Name "isinstance" p) [a, .Tuple [.Name x p', .Name y p2] kt p3] [] pos) (dOp1 (isiD2 T U) ma) := by
  obtain ⟨ta, pa, qa⟩ := ha
  have hm' : X.mg "isinstance" = none := by rw [← C.hM]; exact hm
  have hm2' : X.mg x = none := by rw [← C.hM]; exact hm2
  have hm3' : X.mg y = none := by rw [← C.hM]; exact hm3
  refine ⟨_, pe_callB call_isiT (C.glo h) hm' PyProof.Rows.boot_isinstance (pa_cons pa (pa_cons (pe_tup (pa_cons (pe_bltn (v := .ty T) (C.glo h2) hm2' hv rfl h2.nn h2.nd) (pa_cons (pe_bltn (v := .ty U) (C.glo h3) hm3' hv3 rfl h3.nn h3.nd) pa_nil rfl) rfl)) pa_nil rfl) hs) h.nn h.nd hs hpl, fun σ H F ρ Q sm h => ?_⟩
  refine qa σ H F ρ _ sm (Post.go h fun v ρ1 F1 H1 u _ st1 sm1 ok1 h1 => ?_)
  obtain ⟨rv, e, k⟩ := Post.fin' h1 st1 sm1
  obtain ⟨d, l1, hg⟩ := bind_some1 e
  have vw := ok1.view0 sm1 l1
  unfold isiD2 at hg
  cases et : tyO d with
  | none =>
    rw [et] at hg
    cases hg
  | some t =>
    rw [et] at hg
    cases hg
    have ty := tyx_of sm1.sub vw et
    rw [C.hK] at ty
    refine ⟨by show 2 ≤ sizeLine; decide, fun q hq => ?_⟩
    refine ⟨_, q, _, _, _, _, rfl, upd_same, .cons (.ty T) (.cons (.ty U) .nil), tyx_same (same_upd hq) ty, ?_, k F1 _ _ (Alc.new sm1.sub hq) RvNew.bl⟩
    refine kitAny_cons (kit_ty (hk t (tyO_mem et))) (fun e1 => ?_) (fun e1 => ?_)
    · refine kitAny_cons (kit_ty (hk3 t (tyO_mem et))) (fun e2 => ?_) (fun e2 => ?_)
      · rw [e1, e2]
        exact kitAny_nil
      · rw [e2, Bool.or_true]
    · rw [e1, Bool.true_or]
/-! ### join -/
def strsO : List D → Option (List Str)
  | [] => some []
  | .str x :: r => (strsO r).map (x :: ·)
  | _ => none
def joinD : D → D → Option RV
  | .str a, .lst ds => (strsO ds).bind fun ys => if (ys.map (·.length)).sum + ys.length * a.length ≤ 16777216 then some (.im (.str (Txt.join a ys))) else none
  | _, _ => none
theorem strs_of : ∀ {ds : List D} {ys : List Str} {vs : List V}, strsO ds = some ys → Reps M F vs ds → vs = ys.map V.str
  | [], _, _, h, r => by
    cases h
    cases r
    rfl
  | d :: ds, ys, _, h, r => by
    cases r with
    | cons r1 r2 =>
      cases d with
      | str x =>
        have h : (strsO ds).map (x :: ·) = some ys := h
        cases e : strsO ds with
        | none =>
          rw [e] at h
          cases h
        | some zs =>
          rw [e] at h
          cases h
          cases r1
          rw [strs_of e r2]
          rfl
      | _ => cases h
def dStrJoin (ma mb : DM RV) : DM RV := fun ρ => (ma ρ).bind fun x ρ1 => match x with
  | .im (.str a) => (mb ρ1).bind fun y ρ2 => ofO ((look ρ2 y).bind (joinD (.str a))) ρ2
  | _ => .bad
theorem de_joinF (C : CxD P w base M N sc j X W) {a e : Expr} {p pos : Pos} (ha : DE X M W a ma) (hb : DE X M W e mb) (hs : starEach [e] X.env = [(false, eval e X.env)] := by rfl) (hbase : attributeBase a "join" X.env (eval a X.env) = eval a X.env := by rfl) (hline : (p.endLine == pos.line) = true := by rfl) :
    DE X M W (.Call (.Attribute a "join" p) [e] [] pos) (dStrJoin ma mb) := by
  obtain ⟨ta, pa, qa⟩ := ha
  obtain ⟨tb, pb, qb⟩ := hb
  refine ⟨_, pe_join pa pb hs hbase hline, fun σ H F ρ Q sm h => ?_⟩
  refine qa σ H F ρ _ sm (Post.go h fun x ρ1 F1 H1 v _ st1 sm1 ok1 h1 => ?_)
  split at h1
  · rename_i s _
    have ev : v = .str s := vw_str (ok1.view0 sm1 (d := .str s) rfl)
    refine ⟨⟨s, ev⟩, ?_⟩
    refine qb σ H1 F1 ρ1 _ sm1 (Post.go (Post.from st1 h1) fun y ρ2 F2 H2 u _ st2 sm2 ok2 h2 => ?_)
    obtain ⟨rv, e, k⟩ := Post.fin' h2 st2 sm2
    obtain ⟨d, l2, hg⟩ := bind_some1 e
    have v2 := ok2.view0 sm2 l2
    unfold joinD at hg
    split at hg
    · rename_i s' ds e0
      cases e0
      cases es : strsO ds with
      | none =>
        rw [es] at hg
        cases hg
      | some ys =>
        rw [es] at hg
        obtain ⟨hz, e3⟩ := some_ite (show (if (ys.map (·.length)).sum + ys.length * s.length ≤ 16777216 then some (RV.im (.str (Txt.join s ys))) else none) = some rv from hg)
        subst e3
        obtain ⟨q, vs, e4, h4, r4⟩ := v2
        subst e4
        rw [strs_of es r4] at h4
        exact ⟨s, q, ys, ev, rfl, .inl (.inl (.inl h4)), hz, k _ _ _ (Alc.refl sm2.sub) RvNew.str⟩
    · cases hg
  · exact h1.elim
/-! ### list * int -/
def repD : D → D → Option RV
  | .lst ds, .int k => if (decide (0 ≤ k) && decide (k ≤ 1000) && decide (ds.length ≤ 1000)) = true then some (.ow (.ls (List.replicate k.toNat ds).flatten)) else none
  | _, _ => none
theorem reps_rep {vs : List V} {ds : List D} (r : Reps M F vs ds) : ∀ n : Nat, Reps M F (List.replicate n vs).flatten (List.replicate n ds).flatten
  | 0 => .nil
  | n + 1 => by
    rw [List.replicate_succ, List.replicate_succ, List.flatten_cons, List.flatten_cons]
    exact r.append (reps_rep r n)
theorem o2_rep : Op2 M rRep repD := by
  intro F H x y d e rv Q sub hx hy hg k
  unfold repD at hg
  split at hg
  · rename_i ds i
    obtain ⟨hc, e⟩ := some_ite hg
    subst e
    simp only [Bool.and_eq_true, decide_eq_true_eq] at hc
    obtain ⟨⟨h1, h2⟩, h3⟩ := hc
    obtain ⟨a, vs, e1, h4, r1⟩ := hx
    refine ⟨a, i, vs, e1, vw_int hy, h4, by omega, by omega, ?_, fun p hp => new_lst sub (reps_rep r1 _) k hp⟩
    have : vs.length ≤ 1000 := by rw [r1.length]; exact h3
    have hi : i.toNat ≤ 1000 := by omega
    have := Nat.mul_le_mul this hi
    exact Nat.le_trans this (by decide)
  · cases hg
theorem de_rep (ha : DE X M W a ma) (hb : DE X M W b mb) : DE X M W (.BinOp a .Mult b pos) (dOp2 repD ma mb) := de_tOp ha hb o2_rep fun ta tb p q => pe_op op_rep p q
/-! ### names of the module -/
/-- a constant of the module -/
def KCon (M : Mx) (x : Str) (d : D) : Prop := ∃ u v, M.mg x = some u ∧ RelV v u ∧ ∀ F, Rep M F v d
theorem KCon.int {i : Int} {t} (h : M.mg x = some (.int i t)) : KCon M x (.int i) := ⟨_, .int i, h, ⟨t, rfl⟩, fun _ => .int i⟩
theorem KCon.str {i : Str} {t} (h : M.mg x = some (.str i t)) : KCon M x (.str i) := ⟨_, .str i, h, ⟨t, rfl⟩, fun _ => .str i⟩
theorem de_k {d : D} (C : CxD P w base M N sc j X W) (h : GlOk sc x) (c : KCon M x d) : DE X M W (.Name x p) (dC d) := by
  obtain ⟨u, v, h1, h2, h3⟩ := c
  exact de_glob (C.glo h) (by rw [← C.hM]; exact h1) h2 h3 h.nd
/-- a dict of the module, with text keys -/
structure DctK (M : Mx) (w : World) (x : Str) (ks : List Str) : Prop where
  ex : ∃ d es n, M.mg x = some (.ref d) ∧ KDict M.K w d es n ∧ ∀ z, ∃ r, PySem.W.nsIn M.K d z = some r ∧ r.isSome = ks.contains z
def keyS (e : DictEntry) : Option Str := match e.key with
  | .str x _ => some x
  | _ => none
theorem find_keys : ∀ {l : List DictEntry} {ks : List Str}, l.map keyS = ks.map some → ∀ z : Str, (l.any (·.refKey) = false) ∧ ((l.find? fun e => e.key.isStr z).isSome = ks.contains z)
  | [], [], _, z => ⟨rfl, rfl⟩
  | e :: r, k :: ks, h, z => by
    have h1 : keyS e :: r.map keyS = some k :: ks.map some := h
    injection h1 with h2 h3
    obtain ⟨i1, i2⟩ := find_keys h3 z
    obtain ⟨eh, ek, ev⟩ := e
    unfold keyS at h2
    split at h2
    · rename_i x t q
      have q : ek = .str x t := q
      subst q
      cases Option.some.inj h2
      refine ⟨?_, ?_⟩
      · rw [List.any_cons, i1]
        rfl
      · rw [List.find?_cons, List.contains_cons]
        show (match (k == z) with
          | true => some _
          | false => _).isSome = _
        rw [show (z == k) = (k == z) from Bool.beq_comm]
        cases k == z with
        | true => rfl
        | false =>
          rw [Bool.false_or]
          exact i2
    · cases h2
theorem dctK_of {M : Mx} {w : World} {x : Str} {ks : List Str} {d : Addr} {es : Array DictEntry} {n : Nat} (g : M.mg x = some (.ref d)) (l : M.K.lookup d = some ⟨.type "dict", none, .dict es n, #[]⟩) (k : PySem.W.KeysLit w.params es.toList) (s : (d == sysModules) = false) (t : es.toList.map keyS = ks.map some) : DctK M w x ks := by
  refine ⟨d, es, n, g, ⟨l, k, s⟩, fun z => ?_⟩
  obtain ⟨h1, h2⟩ := find_keys t z
  unfold PySem.W.nsIn
  rw [l]
  show ∃ r, (match es.toList.find? (·.key.isStr z) with
      | some e => some (some e.val)
      | none => if es.toList.any (·.refKey) then none else some none) = some r ∧ _
  cases e : es.toList.find? (·.key.isStr z) with
  | some en =>
    rw [e] at h2
    exact ⟨_, rfl, h2⟩
  | none =>
    rw [e] at h2
    refine ⟨none, ?_, h2⟩
    show (if es.toList.any (·.refKey) = true then none else some none) = _
    rw [if_neg (by rw [h1]; exact Bool.false_ne_true)]
def inKD (neg : Bool) (ks : List Str) : D → Option RV
  | .str z => some (.im (.bl (neg != ks.contains z)))
  | _ => none
theorem de_notInK {ks : List Str} (C : CxD P w base M N sc j X W) (h : GlOk sc x) (c : DctK M w x ks) (ha : DE X M W a ma) (hm : behindInMarks .NotIn (.Name x p) = false := by rfl) : DE X M W (.Compare a [.NotIn] [.Name x p] pos) (dOp1 (inKD true ks) ma) := by
  obtain ⟨ta, pa, qa⟩ := ha
  obtain ⟨cd, ces, cn, cg, ckd, ckk⟩ := c.ex
  have g : X.mg x = some (.ref cd) := by rw [← C.hM]; exact cg
  have kd : KDict X.K X.w cd ces cn := by
    rw [← C.hK, C.hw]
    exact ckd
  refine ⟨_, pe_cmpR (op_notIn_kd kd) pa (pe_glob (v := .ref cd) (C.glo h) g rfl h.nd) hm, fun σ H F ρ Q sm h => ?_⟩
  refine qa σ H F ρ _ sm (Post.go h fun v ρ1 F1 H1 u _ st1 sm1 ok1 h1 => ?_)
  obtain ⟨rv, e, k⟩ := Post.fin' h1 st1 sm1
  obtain ⟨d, l1, hg⟩ := bind_some1 e
  have vw := ok1.view0 sm1 l1
  unfold inKD at hg
  split at hg
  · rename_i s
    cases hg
    obtain ⟨r, e1, e2⟩ := ckk s
    rw [vw_str vw]
    refine ⟨s, r, rfl, rfl, by rw [← C.hK]; exact e1, k _ _ _ (Alc.refl sm1.sub) ?_⟩
    rw [← e2, Bool.true_bne]
    exact RvNew.bl
  · cases hg
/-! ### calls without arguments, defs as they lie, recursion -/
structure DefAt (M : Mx) (x : Str) (st : Stmt) (ps : List Str) where
  f : Addr
  fd : FuncData
  g : M.mg x = some (.ref f)
  kp : PySem.W.keepIn M.K (.ref f) = true
  b : Binds M.K fd ps []
  fu : Fun M.K x x st f fd
def DefAt.cal {st : Stmt} {ps : List Str} {n : Nat} {mm : SE → R RV} (d : DefAt M x st ps) (ok : FnOk P w M.K M.mg base (L2.CX P w) j d.f d.fd ps (spD M n mm)) : Cal P w base M x j n mm := ⟨d.f, d.fd, ps, d.g, d.kp, d.b, ok⟩
theorem de_callC0 {k n : Nat} {mm : SE → R RV} (C : CxD P w base M N sc j X W) (Ca : Cal P w base M x k n mm) (g : GlOk sc x) (hk : k ≤ j) : DE X M W (.Call (.Name x p) [] [] pos) (dCall n [] mm aNil) := by
  obtain ⟨f, fd, ps, g', kp, b, ok⟩ := Ca
  have hP := C.hP
  have hw := C.hw
  have hB := C.hB
  subst hP hw hB
  rw [C.hK, C.hM] at ok
  rw [C.hK] at kp b
  rw [C.hM] at g'
  refine ⟨tCallSD (spD M n mm) [] (fun σ cls d H' => W cls d σ H') tNil, ⟨fun pins s σ H Q I h => ?_⟩, q_call (dds := []) (fun σ H F ρ Q sm h => h F H [] (Stp.refl _ _ _ _) sm .nil) fun _ => .nil⟩
  refine wpAny_Call_Name_kw (ld_glob I (C.glo g) g' ?_ g.nd)
  exact PySem.W.callWith_K0 I.kIn kp (run_fnSD (us := []) ok (C.hr.mono hk) b .nil (passAt C.tk σ) I .nil h)
def mBad : SE → R RV := fun _ => .bad
theorem fn_bad {f : Addr} {fd : FuncData} {ps : List Str} {n : Nat} : FnOk P w M.K M.mg base (L2.CX P w) j f fd ps (spD M n mBad) := by
  have no : ∀ vs H Q E, ¬ spD M n mBad vs H Q E := by
    intro vs H Q E h
    obtain ⟨F, svs, _, _, _, hp⟩ := h
    exact hp
  exact ⟨fun vs H Q E h => (no _ _ _ _ h).elim, fun A outer s H args us vs Q E hr he hb hv h => (no _ _ _ _ h).elim⟩
end
end DL

/- part -/
set_option Elab.async false
set_option linter.all false
set_option maxRecDepth 100000
set_option maxHeartbeats 1000000
namespace DL
open PySem PySem.Spec PyProof.Rows L2
/-! ### the end -/
/-- the script alone -/
def lone (H : Hp) (a : Addr) : Hp := fun b => if b = a then (match H b with
  | some (.lst vs) => some (.lst vs)
  | some (.frz o (.lst vs)) => some (.frz o (.lst vs))
  | _ => none) else none
theorem lone_at {H : Hp} {a b : Addr} {o : HO} (e : lone H a b = some o) : H b = some o ∧ ((∃ vs, o = .lst vs) ∨ ∃ q vs, o = .frz q (.lst vs)) := by
  unfold lone at e
  split at e
  · split at e
    · rename_i h
      cases e
      exact ⟨h, .inl ⟨_, rfl⟩⟩
    · rename_i h
      cases e
      exact ⟨h, .inr ⟨_, _, rfl⟩⟩
    · cases e
  · cases e
theorem lone_sub (H : Hp) (a : Addr) : SubF (lone H a) H := ⟨fun b o e _ => (lone_at e).1, fun b n vs e => by
  rcases (lone_at e).2 with ⟨ws, z⟩ | ⟨q, ws, z⟩ <;> cases z⟩
theorem lone_ntb (H : Hp) (a : Addr) : NoTb (lone H a) := fun b ps e => by
  rcases (lone_at e).2 with ⟨ws, z⟩ | ⟨q, ws, z⟩ <;> cases z
theorem lone_sqL {K : PySem.W.Frag} {H : Hp} {a : Addr} {xs : List V} (h : SqL K H a xs) : SqL K (lone H a) a xs := by
  rcases h with (h | ⟨o, h⟩) | h
  · refine .inl (.inl ?_)
    unfold lone
    rw [if_pos rfl, h]
  · refine .inl (.inr ⟨o, ?_⟩)
    unfold lone
    rw [if_pos rfl, h]
  · exact .inr h
def spLaw (K : PySem.W.Frag) : Sp := fun vs H Q _ => ∃ (a : Addr) (ns : List Int), vs = [.ref a] ∧ SqL K H a (ns.map V.int) ∧ ns.length ≤ 63 ∧ ∀ H', Q (.bl true) H'
def LawGood (m : SE → R RV) : Prop := ∀ ns : List Int, ns.length ≤ 63 → ∃ ρ', m [.im (.scr ns)] = .ok (.im (.bl true)) ρ'
/-- .. and the tables T are empty yet -/
def spLawC (K : PySem.W.Frag) (T : List (Addr × Str)) : Sp := fun vs H Q E => spLaw K vs H Q E ∧ ∀ p ∈ T, H p.1 = some (.tbl #[])
theorem end_sp {M : Mx} {m : SE → R RV} (hm : LawGood m) : ∀ vs H Q E, spLawC M.K M.T vs H Q E → spD M 1 m vs H Q E := by
  intro vs H Q E ⟨h, hT⟩
  obtain ⟨a, ns, rfl, hS, hl, k⟩ := h
  obtain ⟨ρ', e⟩ := hm ns hl
  refine ⟨lone H a, [.im (.scr ns)], rfl, fun i sv h => ?_, ⟨⟨lone_sub H a, lone_ntb H a⟩, fun p hp => .nil (hT p hp), rfl, fun i d h => ?_, fun i io ds h => ?_, fun i j b h => ?_⟩, ?_⟩
  · match i, h with
    | 0, h =>
      cases h
      exact .inl ⟨_, rfl⟩
  · match i, h with
    | 0, h =>
      cases h
      exact ⟨_, rfl, .scr (lone_sqL hS)⟩
  · match i, h with
    | 0, h => cases h
  · obtain ⟨io, ds, h⟩ := h
    match i, h with
    | 0, h => cases h
  · rw [e]
    intro F' H' v st sm ok
    have ok : Rep M F' v (.bl true) := ok
    cases ok
    exact k H'
theorem fn_law {P : Program} {w : World} {base : Heap} {M : Mx} {k : Nat} {f : Addr} {fd : FuncData} {x : Str} {m : SE → R RV} (hm : LawGood m) (F : FnOk P w M.K M.mg base (L2.CX P w) k f fd [x] (spD M 1 m)) : FnOk P w M.K M.mg base (L2.CX P w) k f fd [x] (spLawC M.K M.T) := F.imp (end_sp hm)
theorem walkD {l : PySem.W.OpenLaw} {q : Program} {loose : List Str} {XP : (Str → Option Value) → Heap → Prop} {YP : World → Heap → Prop} {d : DefRec} {K : Params → PySem.W.Frag} {k : Nat} (hr : Room k callerA) (hn : l.most = some 63) (hdf : d.params.defaults = [])
    (hY : ∀ (w : World) (h : Heap), YP w h → (K w.params).In h)
    (F : ∀ (w : World) (mg : Str → Option Value) (fa : Addr) (h : Heap), (K w.params).In h → h.Ns mainGlobals mg → mg d.name = some (.ref fa) →
      ∃ fd : FuncData, (∀ (s : Shared) (u : Value), BindsTo s fd ⟨[u], []⟩ [("_law_script", u)]) ∧ ∀ base : Heap, (K w.params).In base → base.Ns mainGlobals mg → FnOk l.prog w (K w.params) mg base (L2.CX l.prog w) k fa fd ["_law_script"] (spLawC (K w.params) [])) :
    PySem.W.WalkO q loose XP YP l.row.toRowW d [] (fun f vs => PySem.call f vs) :=
  L2.walk_of (n := 63) (k := k) (x := "_law_script") (CX := fun w => L2.CX l.prog w) (sp := fun w => spLawC (K w.params) []) hn (by decide) hdf hr hY F (fun _ _ a ns hl _ hS => ⟨⟨a, ns, rfl, hS, hl, fun _ => rfl⟩, fun p hp => by cases hp⟩) fun _ _ _ _ _ ⟨_, _, _, _, _, _, _, _, _, _, _, _, z⟩ => z
end DL

/- part -/
set_option Elab.async false
set_option linter.all false
set_option maxRecDepth 100000
set_option maxHeartbeats 1000000
namespace DL
open PySem PySem.Spec PyProof.Rows L2
/-! ### reckoning with the data semantics -/
section
variable {α β : Type} {a : α} {ρ ρ1 ρ2 : SE}
@[simp] theorem bind_okA {f : α → SE → R β} : (R.ok a ρ).bind f = f a ρ := rfl
@[simp] theorem bind_badA {f : α → SE → R β} : (R.bad : R α).bind f = .bad := rfl
@[simp] theorem bind_exA {f : α → SE → R β} {e : Exc} : (R.ex e ρ : R α).bind f = .ex e ρ := rfl
@[simp] theorem ofO_someA : ofO (some a) ρ = .ok a ρ := rfl
@[simp] theorem look_imA {d : D} : look ρ (.im d) = some (unl d) := rfl
@[simp] theorem look_owA {oc : OC} : look ρ (.ow oc) = some oc.D := rfl
@[simp] theorem oc_lsA {ds : List D} : (OC.ls ds).D = .lst ds := rfl
@[simp] theorem oc_obA {c : Str} {fs : List (Str × D)} : (OC.ob c fs).D = .obj c fs := rfl
@[simp] theorem unl_nonA : unl .non = .non := rfl
@[simp] theorem unl_blA {b : Bool} : unl (.bl b) = .bl b := rfl
@[simp] theorem unl_intA {i : Int} : unl (.int i) = .int i := rfl
@[simp] theorem unl_strA {x : Str} : unl (.str x) = .str x := rfl
@[simp] theorem unl_tupA {ds : List D} : unl (.tup ds) = .tup ds := rfl
@[simp] theorem unl_lstA {ds : List D} : unl (.lst ds) = .lst ds := rfl
@[simp] theorem unl_scrA {ns : List Int} : unl (.scr ns) = .scr ns := rfl
@[simp] theorem unl_tlA {n : Nat} {ds : List D} : unl (.tl n ds) = .lst ds := rfl
@[simp] theorem unl_objA {c : Str} {fs : List (Str × D)} : unl (.obj c fs) = .obj c fs := rfl
@[simp] theorem unl_excA {c : Str} {fs : List (Str × D)} : unl (.exc c fs) = .exc c fs := rfl
@[simp] theorem unl_fnA {x : Str} : unl (.fn x) = .fn x := rfl
@[simp] theorem fz_imA {d : D} : fz (.im d) ρ = .ok d ρ := rfl
@[simp] theorem fz_owA {oc : OC} : fz (.ow oc) ρ = .ok oc.D ρ := rfl
@[simp] theorem asB_blA {b : Bool} : asB (.im (.bl b)) ρ = .ok b ρ := rfl
@[simp] theorem asSV_imA {d : D} : asSV (.im d) ρ = .ok (.im d) ρ := rfl
@[simp] theorem asSV_owA {oc : OC} : asSV (.ow oc) ρ = .ok (.ow false oc) ρ := rfl
@[simp] theorem notBo_imA {d : D} : notBo (.im d) = true := rfl
@[simp] theorem notBo_owA {d : OC} : notBo (.ow d) = true := rfl
@[simp] theorem atI_0A {x : α} {l : List α} : atI (x :: l) 0 = some x := by
  have := atI_nat (xs := x :: l) (j := 0) (v := x) rfl
  exact this
@[simp] theorem atI_1A {x y : α} {l : List α} : atI (x :: y :: l) 1 = some y := atI_nat (xs := x :: y :: l) (j := 1) (v := y) rfl
@[simp] theorem atI_2A {x y z : α} {l : List α} : atI (x :: y :: z :: l) 2 = some z := atI_nat (xs := x :: y :: z :: l) (j := 2) (v := z) rfl
@[simp] theorem atI_3A {x y z u : α} {l : List α} : atI (x :: y :: z :: u :: l) 3 = some u := atI_nat (xs := x :: y :: z :: u :: l) (j := 3) (v := u) rfl
theorem atI_map {γ : Type} {f : α → γ} {l : List α} {i : Int} : atI (l.map f) i = (atI l i).map f := by
  unfold atI
  rw [List.length_map]
  cases ixN l.length i with
  | none => rfl
  | some j => simp
theorem atI_in {l : List α} {i : Int} (h0 : 0 ≤ i) (h1 : i < l.length) : ∃ x, atI l i = some x ∧ x ∈ l := by
  have hj : i.toNat < l.length := by omega
  refine ⟨l[i.toNat], ?_, List.getElem_mem hj⟩
  have := atI_nat (xs := l) (j := i.toNat) (v := l[i.toNat]) (List.getElem?_eq_getElem hj)
  rw [Int.toNat_of_nonneg h0] at this
  exact this
theorem ixN_in {n : Nat} {i : Int} (h0 : 0 ≤ i) (h1 : i < n) : ixN n i = some i.toNat := by
  unfold ixN
  rw [if_pos h0, if_pos h1]
end
section
variable {i j : Int} {x y : Str} {b c : Bool} {ds es : List D} {d e : D} {ns : List Int}
theorem okc_int : okc (.int i) = true := rfl
theorem okc_bl : okc (.bl b) = true := rfl
def SOk (x : Str) : Prop := okc (.str x) = true
@[simp] theorem eqD_intA : eqD (.int i) (.int j) = some (.im (.bl (decide (i = j)))) := by
  unfold eqD
  rw [if_pos (by rw [okc_int, okc_int]; rfl)]
  congr 3
@[simp] theorem neD_intA : neD (.int i) (.int j) = some (.im (.bl (!decide (i = j)))) := by
  unfold neD
  rw [if_pos (by rw [okc_int, okc_int]; rfl)]
  congr 3
@[simp] theorem eqD_blA : eqD (.bl b) (.bl c) = some (.im (.bl (b == c))) := by
  unfold eqD
  rw [if_pos (by rw [okc_bl, okc_bl]; rfl)]
  rfl
@[simp] theorem neD_blA : neD (.bl b) (.bl c) = some (.im (.bl (!(b == c)))) := by
  unfold neD
  rw [if_pos (by rw [okc_bl, okc_bl]; rfl)]
  rfl
theorem eqD_strA (hx : SOk x) (hy : SOk y) : eqD (.str x) (.str y) = some (.im (.bl (x == y))) := by
  unfold eqD
  rw [if_pos (by rw [show okc (.str x) = true from hx, show okc (.str y) = true from hy]; rfl)]
  rfl
theorem neD_strA (hx : SOk x) (hy : SOk y) : neD (.str x) (.str y) = some (.im (.bl (!(x == y)))) := by
  unfold neD
  rw [if_pos (by rw [show okc (.str x) = true from hx, show okc (.str y) = true from hy]; rfl)]
  rfl
@[simp] theorem addD_intA : addD (.int i) (.int j) = some (.im (.int (i + j))) := rfl
@[simp] theorem subD_intA : subD (.int i) (.int j) = some (.im (.int (i - j))) := rfl
theorem log2_lt {n k : Nat} (h : n < 2 ^ k) (hk : 0 < k) : n.log2 < k := by
  by_cases h0 : n = 0
  · subst h0
    exact hk
  · exact (Nat.log2_lt h0).mpr h
theorem mulD_ok {a b : Nat} (h1 : i.natAbs.log2 < a) (h2 : j.natAbs.log2 < b) (h : a + b ≤ 1000000) : mulD (.int i) (.int j) = some (.im (.int (i * j))) := by
  show (if cMul i j = true then _ else none) = _
  rw [if_pos]
  exact decide_eq_true (by omega)
/-- a factor -/
def Sml (i : Int) : Prop := i.natAbs.log2 < 499999
/-- a divisor -/
def Dvs (j : Int) : Prop := j ≠ 0 ∧ j.natAbs.log2 < 9000
theorem Sml.of {i : Int} {k : Nat} (h : i.natAbs < 2 ^ k) (hk : 0 < k) (hk2 : k ≤ 499999) : Sml i := Nat.lt_of_lt_of_le (log2_lt h hk) hk2
theorem Dvs.of {i : Int} {k : Nat} (h0 : i ≠ 0) (h : i.natAbs < 2 ^ k) (hk : 0 < k) (hk2 : k ≤ 9000) : Dvs i := ⟨h0, Nat.lt_of_lt_of_le (log2_lt h hk) hk2⟩
@[simp] theorem mulD_A (h1 : Sml i) (h2 : Sml j) : mulD (.int i) (.int j) = some (.im (.int (i * j))) := mulD_ok h1 h2 (by decide)
@[simp] theorem fdivD_A (h : Dvs j) : fdivD (.int i) (.int j) = some (.im (.int (i.fdiv j))) := by
  show (if cDiv j = true then _ else none) = _
  rw [if_pos]
  exact decide_eq_true h
@[simp] theorem modD_A (h1 : j ≠ 0) : modD (.int i) (.int j) = some (.im (.int (i.fmod j))) := by
  show (if _ then _ else none) = _
  rw [if_pos h1]
@[simp] theorem ltD_intA : ltD (.int i) (.int j) = some (.im (.bl (decide (i < j)))) := rfl
@[simp] theorem leD_intA : leD (.int i) (.int j) = some (.im (.bl (decide (i ≤ j)))) := rfl
@[simp] theorem gtD_intA : gtD (.int i) (.int j) = some (.im (.bl (decide (j < i)))) := rfl
@[simp] theorem geD_intA : geD (.int i) (.int j) = some (.im (.bl (decide (j ≤ i)))) := rfl
@[simp] theorem ixD_lstA : ixD (.lst ds) (.int i) = (atI ds i).map RV.im := rfl
@[simp] theorem ixD_tupA : ixD (.tup ds) (.int i) = (atI ds i).map RV.im := rfl
@[simp] theorem ixD_scrA : ixD (.scr ns) (.int i) = (atI ns i).map fun n => RV.im (.int n) := rfl
@[simp] theorem gLen_lstA : gLen [.lst ds] = some (.im (.int ds.length)) := rfl
@[simp] theorem gLen_tupA : gLen [.tup ds] = some (.im (.int ds.length)) := rfl
@[simp] theorem gLen_scrA : gLen [.scr ns] = some (.im (.int ns.length)) := rfl
theorem gLen_str (h : x.length ≤ 1000000) : gLen [.str x] = some (.im (.int x.length)) := by
  show (if _ then _ else none) = _
  rw [if_pos h]
@[simp] theorem gList_lstA : gList [.lst ds] = some (.ow (.ls ds)) := rfl
@[simp] theorem gList_scrA : gList [.scr ns] = some (.ow (.ls (ns.map D.int))) := rfl
@[simp] theorem slD_lstA {lo hi : Option Int} : slD (.lst ds) lo hi = some (.ow (.ls (cutL ds lo hi))) := rfl
@[simp] theorem slD_scrA {lo hi : Option Int} : slD (.scr ns) lo hi = some (.ow (.ls ((cutL ns lo hi).map D.int))) := rfl
@[simp] theorem isi_blA {T : String} : isiD T (.bl b) = some (.im (.bl (isT "bool" T))) := rfl
@[simp] theorem isi_intA {T : String} : isiD T (.int i) = some (.im (.bl (isT "int" T))) := rfl
@[simp] theorem isi_strA {T : String} : isiD T (.str x) = some (.im (.bl (isT "str" T))) := rfl
@[simp] theorem isi_lstA {T : String} : isiD T (.lst ds) = some (.im (.bl (isT "list" T))) := rfl
@[simp] theorem isi_tupA {T : String} : isiD T (.tup ds) = some (.im (.bl (isT "tuple" T))) := rfl
@[simp] theorem isi_nonA {T : String} : isiD T .non = some (.im (.bl (isT "NoneType" T))) := rfl
@[simp] theorem isi2_blA {T U : String} : isiD2 T U (.bl b) = some (.im (.bl (isT "bool" T || isT "bool" U))) := rfl
@[simp] theorem isi2_intA {T U : String} : isiD2 T U (.int i) = some (.im (.bl (isT "int" T || isT "int" U))) := rfl
@[simp] theorem isi2_strA {T U : String} : isiD2 T U (.str x) = some (.im (.bl (isT "str" T || isT "str" U))) := rfl
@[simp] theorem isi2_lstA {T U : String} : isiD2 T U (.lst ds) = some (.im (.bl (isT "list" T || isT "list" U))) := rfl
@[simp] theorem isi2_tupA {T U : String} : isiD2 T U (.tup ds) = some (.im (.bl (isT "tuple" T || isT "tuple" U))) := rfl
@[simp] theorem isi2_nonA {T U : String} : isiD2 T U .non = some (.im (.bl (isT "NoneType" T || isT "NoneType" U))) := rfl
theorem cut63 {α : Type} {xs : List α} (h : xs.length ≤ 63) : cutL xs none (some 63) = xs := by
  have e : HT.sIx xs.length xs.length (some 63) = xs.length := by
    have := HT.sIx_nat xs.length xs.length 63
    rw [show (some ((63 : Nat) : Int)) = some (63 : Int) from rfl] at this
    rw [this]
    omega
  unfold cutL
  rw [e, HT.sIx_none]
  simp
end
/-! loops by an invariant -/
theorem floop_inv {gm : D → SE → R Unit} {b : DM Fl} {I : SE → Prop} : ∀ {ds : List D} {ρ : SE}, (∀ d ∈ ds, ∀ ρ, I ρ → ∃ ρ1 f ρ2, gm d ρ = .ok () ρ1 ∧ b ρ1 = .ok f ρ2 ∧ (f = .nx ∨ f = .ct) ∧ I ρ2) → I ρ → ∃ ρ', floop gm b ds ρ = .ok .nx ρ' ∧ I ρ'
  | [], ρ, _, h => ⟨ρ, rfl, h⟩
  | d :: ds, ρ, hs, h => by
    obtain ⟨ρ1, f, ρ2, e1, e2, e3, h2⟩ := hs d List.mem_cons_self ρ h
    obtain ⟨ρ', e4, h4⟩ := floop_inv (fun d hd => hs d (List.mem_cons_of_mem _ hd)) h2
    refine ⟨ρ', ?_, h4⟩
    unfold floop
    rw [e1, bind_okA, e2, bind_okA]
    rcases e3 with e3 | e3 <;> subst e3 <;> exact e4
/-- .. by the number of turns -/
theorem floop_inv' {gm : D → SE → R Unit} {b : DM Fl} {I : List D → SE → Prop} : ∀ {ds : List D} {ρ : SE}, (∀ d r ρ, I (d :: r) ρ → ∃ ρ1 f ρ2, gm d ρ = .ok () ρ1 ∧ b ρ1 = .ok f ρ2 ∧ (f = .nx ∨ f = .ct) ∧ I r ρ2) → I ds ρ → ∃ ρ', floop gm b ds ρ = .ok .nx ρ' ∧ I [] ρ'
  | [], ρ, _, h => ⟨ρ, rfl, h⟩
  | d :: ds, ρ, hs, h => by
    obtain ⟨ρ1, f, ρ2, e1, e2, e3, h2⟩ := hs d ds ρ h
    obtain ⟨ρ', e4, h4⟩ := floop_inv' hs h2
    refine ⟨ρ', ?_, h4⟩
    unfold floop
    rw [e1, bind_okA, e2, bind_okA]
    rcases e3 with e3 | e3 <;> subst e3 <;> exact e4
/-- a comprehension whose turns change the state: I holds of it, P of what has come -/
theorem cLoop_inv {vs : List Nat} {gm : D → SE → R Unit} {mt : DM Bool} {me : DM RV} {I : SE → Prop} {P : D → Prop} : ∀ {ds acc : List D} {ρ : SE}, (∀ d ∈ ds, ∀ ρ, I ρ → noOw ρ vs = true ∧ ∃ y ρ', cTurn vs gm mt me d ρ = .ok (some y) ρ' ∧ P y ∧ I ρ') → acc.length + ds.length ≤ 1000000 → (∀ y ∈ acc, P y) → I ρ →
    ∃ ys ρ', cLoop vs gm mt me ds acc ρ = .ok ys ρ' ∧ ys.length = acc.length + ds.length ∧ (∀ y ∈ ys, P y) ∧ I ρ'
  | [], acc, ρ, _, _, ha, h => ⟨acc, ρ, rfl, rfl, ha, h⟩
  | d :: ds, acc, ρ, hs, hl, ha, h => by
    obtain ⟨h1, y, ρ1, e1, h2, h3⟩ := hs d List.mem_cons_self ρ h
    rw [List.length_cons] at hl
    obtain ⟨ys, ρ', e4, h5, h6, h7⟩ := cLoop_inv (acc := acc ++ [y]) (fun d hd => hs d (List.mem_cons_of_mem _ hd)) (by rw [List.length_append]; simp; omega) (fun z hz => by
      rcases List.mem_append.mp hz with hz | hz
      · exact ha z hz
      · rw [List.mem_singleton.mp hz]
        exact h2) h3
    refine ⟨ys, ρ', ?_, ?_, h6, h7⟩
    · unfold cLoop
      rw [if_pos (by rw [h1]; simp; omega), e1, bind_okA]
      exact e4
    · rw [h5]
      simp
      omega
/-- .. whose turns change nothing -/
theorem cLoop_pure {vs : List Nat} {gm : D → SE → R Unit} {mt : DM Bool} {me : DM RV} {ρ : SE} {f : D → Option D} (hn : noOw ρ vs = true) : ∀ {ds acc : List D}, (∀ d ∈ ds, cTurn vs gm mt me d ρ = .ok (f d) ρ) → acc.length + ds.length ≤ 1000000 → cLoop vs gm mt me ds acc ρ = .ok (acc ++ ds.filterMap f) ρ
  | [], acc, _, _ => by
    unfold cLoop
    simp
  | d :: ds, acc, hs, hl => by
    rw [List.length_cons] at hl
    unfold cLoop
    rw [if_pos (by rw [hn]; simp; omega), hs d List.mem_cons_self, bind_okA]
    have hh : (addO acc (f d)).length + ds.length ≤ 1000000 := by
      cases f d with
      | none =>
        show acc.length + _ ≤ _
        omega
      | some y =>
        show (acc ++ [y]).length + _ ≤ _
        rw [List.length_append]
        simp
        omega
    rw [cLoop_pure hn (fun d hd => hs d (List.mem_cons_of_mem _ hd)) hh]
    cases e : f d with
    | none => simp [addO, e]
    | some y => simp [addO, e]
theorem cLoop_map {vs : List Nat} {gm : D → SE → R Unit} {mt : DM Bool} {me : DM RV} {ρ : SE} {f : D → D} (hn : noOw ρ vs = true) {ds acc : List D} (h : ∀ d ∈ ds, cTurn vs gm mt me d ρ = .ok (some (f d)) ρ) (hl : acc.length + ds.length ≤ 1000000) : cLoop vs gm mt me ds acc ρ = .ok (acc ++ ds.map f) ρ := by
  rw [cLoop_pure hn (f := fun d => some (f d)) h hl]
  congr 2
  induction ds with
  | nil => rfl
  | cons d ds ih => simp
theorem asBls_map (bs : List Bool) : asBls (bs.map D.bl) = some bs := by
  induction bs with
  | nil => rfl
  | cons b bs ih =>
    rw [List.map_cons]
    unfold asBls
    rw [ih]
    rfl
theorem asBls_trues {α : Type} (zs : List α) : asBls (zs.map fun _ => D.bl true) = some (zs.map fun _ => true) := by
  rw [← asBls_map, List.map_map]
  rfl
end DL

/- part -/
set_option Elab.async false
set_option linter.all false
set_option maxRecDepth 100000
set_option maxHeartbeats 1000000
namespace DL
open PySem PySem.Spec PyProof.Rows L2
/-! ### own exceptions: made, raised -/
/-- what an __init__ of one field and of two fields does -/
def spI (K : PySem.W.Frag) (n : Nat) (mk : List V → List (Str × V)) : Sp := fun vs H Q _ => ∃ (a C : Addr) (ws : List V), vs = .ref a :: ws ∧ ws.length = n ∧ OexC K C ∧ PySem.W.findIn K (.ref C) "tag" = some none ∧ (∀ f ∈ (mk ws).map (·.1), PySem.W.findIn K (.ref C) f = some none) ∧ H a = some (exo a C none) ∧
  ∀ dx, H dx = none → dx ≠ a → Q .non (upd (upd H dx (exd dx (mk ws))) a (exo a C (some dx)))
section
variable {P : Program} {w : World} {base : Heap} {M : Mx} {K : PySem.W.Frag} {mg : Str → Option Value}
theorem init1 {qual T : Str} {st : Stmt} {f : Addr} {fd : FuncData} {j : Nat} {p1 p2 p3 p4 : Pos} (Fu : Fun K "__init__" qual st f fd) (S : FnScope ["self"] ["self"] (defScope st)) (hb : defBody st = [.Assign [.Attribute (.Name "self" p1) "tag" p2] (.Constant (.str T) j p3) p4]) (hv : Vis (defScope st) "self") :
    FnOk P w K mg base (L2.CX P w) 1 f fd ["self"] (spI K 0 fun _ => [("tag", .str T)]) := by
  refine Fu.okX S (fun vs H Q E h => ?_) (fun cdv A outer s H vs Q E hr h => ?_)
  · obtain ⟨a, C, ws, rfl, hw, _⟩ := h
    rw [List.length_cons, hw]
    rfl
  · obtain ⟨a, C, ws, rfl, hw, T', hf, _, ha, k⟩ := h
    match ws, hw with
    | [], _ =>
      rw [hb]
      refine ⟨_, pss_one (ps_ost (pv 0 rfl hv) pe_str), ?_⟩
      refine ⟨_, rfl, a, C, rfl, T', hf, .inl ⟨ha, fun dx n ne => ?_⟩⟩
      exact k dx n ne
theorem upd_two {H : Hp} {a dx : Addr} {o1 o2 u : HO} (ne : dx ≠ a) : upd (upd (upd H dx o1) a u) dx o2 = upd (upd H dx o2) a u := by
  funext b
  by_cases h1 : b = dx
  · subst h1
    rw [upd_same, upd_ne ne, upd_same]
  · rw [upd_ne h1]
    by_cases h2 : b = a
    · subst h2
      rw [upd_same, upd_same]
    · rw [upd_ne h2, upd_ne h1, upd_ne h2, upd_ne h1]
theorem init2 {qual T g x : Str} {st : Stmt} {f : Addr} {fd : FuncData} {j : Nat} {p1 p2 p3 p4 p5 p6 p7 p8 : Pos} (Fu : Fun K "__init__" qual st f fd) (S : FnScope ["self", x] ["self", x] (defScope st)) (hb : defBody st = [.Assign [.Attribute (.Name "self" p1) "tag" p2] (.Constant (.str T) j p3) p4, .Assign [.Attribute (.Name "self" p5) g p6] (.Name x p7) p8]) (hv : Vis (defScope st) "self") (hv2 : Vis (defScope st) x) (hd : (x == ("__debug__" : Str)) = false) (hcd : (x == ("__classdict__" : Str)) = false)
    (hsw : ∀ env : Env, swapsWith (.Name x p7) (some (.Attribute (.Name "self" p5) g p6)) p8.line env = pure false := by intro _; rfl) :
    FnOk P w K mg base (L2.CX P w) 1 f fd ["self", x] (spI K 1 fun ws => [(g, ws.getD 0 .non), ("tag", .str T)]) := by
  refine Fu.okX S (fun vs H Q E h => ?_) (fun cdv A outer s H vs Q E hr h => ?_)
  · obtain ⟨a, C, ws, rfl, hw, _⟩ := h
    rw [List.length_cons, hw]
    rfl
  · obtain ⟨a, C, ws, rfl, hw, T', hf, hfs, ha, k⟩ := h
    match ws, hw with
    | [v], _ =>
      rw [hb]
      refine ⟨_, pss_cons (ps_ost (pv 0 rfl hv) pe_str) (pss_one (ps_ost (pv 0 rfl hv) (pe_var (i := 1) rfl hv2 hd hcd) (hsw _))), ?_⟩
      refine ⟨_, rfl, a, C, rfl, T', hf, .inl ⟨ha, fun dx n ne => ?_⟩⟩
      refine ⟨v, rfl, _, rfl, a, C, rfl, T', hfs g (by simp), .inr ⟨dx, [("tag", .str T)], upd_same, ?_, by show 1 ≤ 900; decide, ?_⟩⟩
      · rw [upd_ne ne, upd_same]
      · rw [upd_two ne]
        exact k dx n ne
/-- a class of exceptions that can be made -/
structure ExcAt (M : Mx) (c : Str) (ps : List Str) (mk : List V → List (Str × V)) where
  fI : Addr
  fd : FuncData
  g : M.mg c = some (.ref (M.ca c))
  oex : OexC M.K (M.ca c)
  iC : PySem.W.findIn M.K (.ref (M.ca c)) "__init__" = some (some (.ref fI))
  tI : PySem.W.typeIn M.K (.ref fI) = some (.type "function")
  tag : PySem.W.findIn M.K (.ref (M.ca c)) "tag" = some none
  fs : ∀ ws, ∀ f ∈ (mk ws).map (·.1), PySem.W.findIn M.K (.ref (M.ca c)) f = some none
  xf : XfC M.K (M.ca c)
  b : Binds M.K fd ps []
  ok : ∀ (P : Program) (w : World) (base : Heap), FnOk P w M.K M.mg base (L2.CX P w) 1 fI fd ps (spI M.K (ps.length - 1) mk)
end
theorem XcOk.mk' {K : PySem.W.Frag} {C : Addr} {ns : List Str} (h : XfC K C) (h2 : ∀ f ∈ ns, PySem.W.findIn K (.ref C) f = some none) : XcOk K C ns := ⟨h, h2⟩
theorem fz_ex {r : RV} {ρ ρ' : SE} {x : Exc} (e : fz r ρ = .ex x ρ') : False := by
  cases r with
  | im d => cases e
  | ow ds => cases e
  | bo i =>
    have e : (match ρ[i]? with
      | some (.ow false oc) => R.ok oc.D (ρ.set i (.im oc.D))
      | _ => .bad) = .ex x ρ' := e
    split at e <;> cases e
/-- a new exception of the class at C stands at e behind the arguments' tuple -/
abbrev twoMore (h : Heap) (C : Addr) : Heap := (h.push (PySem.W.kdv_tup [])).push (PySem.HandSPX.excO C h.objs.size)
theorem two_keep {h : Heap} {C : Addr} : ∀ b o, h.get? b = some o → (twoMore h C).get? b = some o := fun _ _ z => Heap.get?_push_of_some _ (Heap.get?_push_of_some _ z)
theorem two_at {h : Heap} {C : Addr} : (twoMore h C).get? (h.objs.size + 1) = some (PySem.HandSPX.excO C h.objs.size) := by heap_get
/-- C() -/
theorem pmk_oex0 {X : Cx} {CX : CXT} {x : Str} {C fI : Addr} {k : Nat} {fd : FuncData} {ps : List Str} {sp : Sp} {p pos : Pos} (oex : OexC X.K C) (iC : PySem.W.findIn X.K (.ref C) "__init__" = some (some (.ref fI))) (tI : PySem.W.typeIn X.K (.ref fI) = some (.type "function"))
    (ini : FnOk X.prog X.w X.K X.mg X.base CX k fI fd ps sp) (room : Room (k + 1) X.A) (hb : Binds X.K fd ps []) (hx : Passes CX X (fun _ _ _ => False)) (gl : Gl X x) (at_ : X.mg x = some (.ref C)) (ndb : (x == ("__debug__" : Str)) = false) :
    PMk X (.Call (.Name x p) [] [] pos) (tMkO C sp [] tNil) := by
  rintro pins ⟨h, gs, dr, tk, os⟩ σ H Q inv ⟨_, want⟩
  apply wpAny_Call_Name_kw
  refine ld_glob inv gl at_ (PySem.W.callWith_K0 inv.kIn oex.kC ?_) ndb
  rcases oex.cls with ⟨_, _, _, _, _, _, _, _, _, _, _, _, _, _, _, lk, ve⟩
  have fresh : h.objs.size ≤ h.objs.size + 1 := by omega
  have J : L2.Inv X pins σ (upd H (h.objs.size + 1) (exo (h.objs.size + 1) C none)) ⟨twoMore h C, gs, dr, tk, os⟩ := inv.laid (t' := tk) two_keep fresh (exo_ok two_at)
  have w := want (h.objs.size + 1) (inv.hok.fresh fresh)
  have one : [Value.ref (h.objs.size + 1)].length = ps.length := ini.len _ _ _ _ w
  have run := ini.run _ X.stack _ _ ⟨[.ref (h.objs.size + 1)], []⟩ [.ref (h.objs.size + 1)] _ _ (room.make C [] []) (J.env0.make C [] []) (hb _ [.ref (h.objs.size + 1)] J.kIn one) (vs := [.ref (h.objs.size + 1)]) (.cons rfl .nil) w
  refine wpAny_call (PySem.HandSPX.call_own F.excBase_ValueError (fun Y => PySem.HandSPX.refsVE_contains Y _ ve) (inv.kIn _ _ lk) (PySem.W.looks_findIn inv.kIn iC) (fun self => PySem.W.bind_fn inv.kIn self tI) (Nat.zero_le _) (codeAny_mono run ?_))
  intro r t out
  match r, t, out with
  | .error er, t, out => exact hx _ _ _ _ er t J out
  | .ok (.ret u), ⟨h2, g2, d2, t2, o2⟩, ⟨v, H2, os2, bare2, un2, hok2, rv, ev, d, fs, q1, q2, q3, q⟩ =>
    cases ev
    exact ⟨rv, mk_end (raises_own oex.exC oex.tyC) inv fresh two_keep un2 hok2 os2 bare2 q1 q2 q3 q⟩
theorem del_upd {H : Hp} {a dx : Addr} {o1 o2 o3 u : HO} (n : H a = none) (ne : dx ≠ a) : upd (del (upd (upd (upd H a o1) dx o2) a o3) a) dx u = upd H dx u := by
  funext b
  by_cases h1 : b = dx
  · subst h1
    rw [upd_same, upd_same]
  · rw [upd_ne h1, upd_ne h1]
    by_cases h2 : b = a
    · subst h2
      rw [del_same, n]
    · rw [del_ne h2, upd_ne h2, upd_ne h1, upd_ne h2]
section
variable {P : Program} {w : World} {base : Heap} {N : List Str} {sc : Scope} {j : Nat}
variable {M : Mx} {W : WX} {X : Cx} {F H F' H' F1 H1 F2 H2 H0 : Hp} {σ σ1 : L2.St} {ρ ρ1 ρ2 : SE}
variable {a b c e : Expr} {ma mb m : DM RV} {es : List Expr} {pos p p' : Pos} {x : Str}
def sRaise0 (c T : Str) : DM Fl := fun ρ => .ex ⟨c, [("tag", .str T)]⟩ ρ
def sRaise1 (c T f : Str) (ma : DM RV) : DM Fl := fun ρ => (dFz ma ρ).bind fun d ρ1 => .ex ⟨c, [(f, d), ("tag", .str T)]⟩ ρ1
theorem exc_new {vs : List (Str × V)} {fs : List (Str × D)} {c : Str} {dx : Addr} (sm : Sim M F H σ ρ) (n : H dx = none) (r : RepF M F vs fs) (xc : XcOk M.K (M.ca c) (fs.map (·.1))) : ∃ F', Alc F H F' (upd H dx (.xd vs)) ∧ ExcOk M F' (upd H dx (.xd vs)) (.ref (M.ca c)) (some dx) ⟨c, fs⟩ :=
  ⟨_, Alc.newF' sm.sub n, rfl, dx, vs, rfl, upd_same, r.up (same_upd (sm.sub.free n)), xc⟩
theorem ds_raise0 {T : Str} {k : Nat} (C : CxD P w base M N sc j X W) (Ex : ExcAt M x ["self"] fun _ => [("tag", .str T)]) (g : GlOk sc x) (hj : 2 ≤ j) : DS X M W (.Raise (some (.Call (.Name x p) [] [] pos)) none p') (sRaise0 x T) := by
  obtain ⟨fI, fd, eg, oex, iC, tI, tag, fs, xf, b, ok⟩ := Ex
  have xc := fun ws => XcOk.mk' xf (fs ws)
  have hK := C.hK
  have hM := C.hM
  have ok := ok X.prog X.w X.base
  rw [hK, hM] at ok
  rw [hK] at oex iC tI tag fs b
  rw [hM] at eg
  refine ⟨_, ps_raise C.cm C.tk (pmk_oex0 oex iC tI ok (C.hr.mono hj) b (fun pins σ H s e s' I ⟨_, _, _, _, _, _, _, _, _, _, _, _, z⟩ => z.elim) (C.glo g) eg g.nd), fun σ H F ρ E sm h => ?_⟩
  refine ⟨Nat.zero_le _, fun a na => ⟨a, M.ca x, [], rfl, rfl, oex, tag, fs [], upd_same, fun dx n ne => ⟨rfl, dx, [("tag", .str T)], upd_same, ?_, ?_, ?_⟩⟩⟩
  · rw [upd_ne ne, upd_same]
  · rw [upd_ne ne] at n
    exact n
  · rw [upd_ne ne] at n
    rw [del_upd na ne]
    obtain ⟨F', al, ex⟩ := exc_new (c := x) (vs := [("tag", V.str T)]) (fs := [("tag", D.str T)]) sm n (.cons (.str T) .nil) (xc [])
    exact h F' _ σ _ _ (al.stp _ _) (sm.alc al) ex
theorem ds_raise1 {T f : Str} {q : Str} (C : CxD P w base M N sc j X W) (Ex : ExcAt M x ["self", q] fun ws => [(f, ws.getD 0 .non), ("tag", .str T)]) (g : GlOk sc x) (hj : 2 ≤ j) (ha : DE X M W a ma)
    (he : starEach [a] X.env = (false, eval a X.env) :: starEach [] X.env := by rfl) (hpl : (backTo pos (starEach [] X.env)).any (·.1) = false := by rfl) : DS X M W (.Raise (some (.Call (.Name x p) [a] [] pos)) none p') (sRaise1 x T f ma) := by
  obtain ⟨fI, fd, eg, oex, iC, tI, tag, fs, xf, b, ok⟩ := Ex
  have xc := fun ws => XcOk.mk' xf (fs ws)
  obtain ⟨ta, pa, qa⟩ := ha
  have hK := C.hK
  have hM := C.hM
  have ok := ok X.prog X.w X.base
  rw [hK, hM] at ok
  rw [hK] at oex iC tI tag fs b
  rw [hM] at eg
  refine ⟨_, ps_raise C.cm C.tk (pmk_oex (dvs := []) oex iC tI ok (C.hr.mono hj) b .nil (fun pins σ H s e s' I ⟨_, _, _, _, _, _, _, _, _, _, _, _, z⟩ => z.elim) (C.glo g) eg (pa_cons pa pa_nil he) g.nd he hpl), fun σ H F ρ E sm h => ?_⟩
  refine qa σ H F ρ _ sm ?_
  unfold sRaise1 dFz at h
  cases e1 : ma ρ with
  | bad =>
    rw [e1] at h
    exact h
  | ex x' ρ' =>
    rw [e1] at h
    exact fun F' H' cls d st sm ok => h F' H' σ cls d st sm ok
  | ok r ρ1 =>
    rw [e1] at h
    intro F1 H1 v st1 sm1 ok1
    have h : PostS M W σ ρ F H ((fz r ρ1).bind fun d ρ1 => .ex ⟨x, [(f, d), ("tag", .str T)]⟩ ρ1) E := h
    cases e2 : fz r ρ1 with
    | bad =>
      rw [e2] at h
      exact h.elim
    | ex x' ρ' => exact (fz_ex e2).elim
    | ok d ρ2 =>
      rw [e2] at h
      obtain ⟨F2, st2, sm2, r2, _⟩ := fz_ok st1 ok1 sm1 e2
      refine ⟨by show 1 ≤ 1000; decide, fun a na => ⟨a, M.ca x, [v], rfl, rfl, oex, tag, fs [v], upd_same, fun dx n ne => ⟨rfl, dx, [(f, v), ("tag", .str T)], upd_same, ?_, ?_, ?_⟩⟩⟩
      · rw [upd_ne ne, upd_same]
        rfl
      · rw [upd_ne ne] at n
        exact n
      · rw [upd_ne ne] at n
        rw [del_upd na ne]
        obtain ⟨F', al, ex⟩ := exc_new (c := x) (vs := [(f, v), ("tag", V.str T)]) (fs := [(f, d), ("tag", D.str T)]) sm2 n (.cons r2 (.cons (.str T) .nil)) (xc [v])
        exact h F' _ σ _ _ (st2.trans (al.stp _ _)) (sm2.alc al) ex
end
end DL

/- part -/
set_option Elab.async false
set_option linter.all false
set_option maxRecDepth 100000
namespace DL
open PySem PySem.Spec L2 PyProof.Rows
/-! ### try: body, except (x1, x2, x3) as n: suite -/
/-- the ends of the suite: behind it the name in slot i is gone -/
def goneEnds (i : Nat) (D : Ends) : Ends := { nx := fun τ G => D.nx (τ.set i none) G, rt := D.rt, bk := fun τ G => D.bk (τ.set i none) G, ct := fun τ G => D.ct (τ.set i none) G }
def wAs3 (K : PySem.W.Frag) (cs : List Value) (i : Nat) (ts : Addr → Value → Option Addr → TS) (D : Ends) : L2.WX := fun cls d σ H =>
  PySem.W.exmAny K cls cs = some true ∧ ∀ a, H a = none → ts a cls d (goneEnds i D) (σ.set i (some (.ref a))) H
/-- an exception that has come down into the frame -/
structure Landed (X : Cx) (pins : List (Addr × Obj)) (τ : L2.St) (G : Hp) (B : Heap) (a : Addr) (cls : Value) (d : Option Addr) (t : Shared) : Prop where
  inv : L2.Inv X pins τ G t
  fly : PySem.HandSPX.FlyingZ B (X.env :: X.outer) a (Zc cls d) t.heap
  out : a ∉ frs (X.env :: X.outer)
  new : G a = none
  low : X.base.get? a = none
section
variable {X : Cx} {pins : List (Addr × Obj)} {τ : L2.St} {G : Hp} {B : Heap} {a : Addr} {cls : Value} {d : Option Addr} {t : Shared}
theorem flying_keep {h h' : Heap} {l : List Env} {e : Addr} {Z : Obj → Prop} (k : ∀ b o, h.get? b = some o → h'.get? b = some o) (x : PySem.HandSPX.FlyingZ B l e Z h) : PySem.HandSPX.FlyingZ B l e Z h' :=
  let ⟨stay, nB, ff, oe, vs, T, oT, ts, q1, q2, q3, q4, q5, q6, q7, q8⟩ := x
  ⟨fun b o q => k b o (stay b o q), nB, Heap.FunFrames.of_keeps (fun b o q _ => ⟨o, k b o q, rfl⟩) ff, oe, vs, T, oT, ts, k _ _ q1, q2, q3, q4, q5, q6, k _ _ q7, q8⟩
/-- no frame: its object has fields -/
theorem Landed.mk' (inv : L2.Inv X pins τ G t) (fly : PySem.HandSPX.FlyingZ B (X.env :: X.outer) a (Zc cls d) t.heap) (new : G a = none) (low : X.base.get? a = none) : Landed X pins τ G B a cls d t := by
  refine ⟨inv, fly, fun inF => ?_, new, low⟩
  obtain ⟨oe, vs, q1, _, q2⟩ := fly.there
  obtain ⟨_, ob, q3, nf⟩ := fly.2.2.1.mem inF
  exact nf vs (by rw [← Option.some.inj (q1.symm.trans q3)]; exact q2)
/-- the suite's context -/
theorem Landed.suite (L : Landed X pins τ G B a cls d t) (fr : X.env.frame = some X.env.locals) : ∃ oe, t.heap.get? a = some oe ∧ Zc cls d oe ∧ (∃ vs, oe.data = .fields vs) ∧ L2.Inv (X.suite a ((a, oe) :: (X.pn ++ pins))) [] τ G t := by
  obtain ⟨oe, vs, q1, z, q2⟩ := L.fly.there
  refine ⟨oe, q1, z, ⟨vs, q2⟩, L.inv.suite q1 q2 L.new (fun y => L.out ?_) fun y => L.out ?_⟩
  · rw [y]
    exact List.mem_filterMap.mpr ⟨X.env, .head _, fr⟩
  · obtain ⟨e, q3, q4⟩ := List.mem_filterMap.mp (show a ∈ X.outer.filterMap _ from y)
    exact List.mem_filterMap.mpr ⟨e, .tail _ q3, q4⟩
/-- a class is named in the clause -/
theorem Landed.named (L : Landed X pins τ G B a cls d t) (fr : X.env.frame = some X.env.locals) {x : Str} {c : Value} {p : Pos} {R E : Value → Shared → Prop} (n : Names X x c) (q : R c t) : wpAny (model X.prog X.w) (X.A.mark (some (.ref a))) (eval (.Name x p) X.env) R E t := by
  obtain ⟨oe, _, _, _, S⟩ := L.suite fr
  rcases n.2.2 with m | m
  · exact ld_glob S n.1 m q n.2.1
  · exact ld_blt S n.1 m.1 m.2.1 q m.2.2 n.2.1
/-- its type -/
theorem Landed.ty (L : Landed X pins τ G B a cls d t) : PySem.W.Looks (model X.prog X.w) t.heap (typeOf (.ref a)) cls := by
  obtain ⟨oe, _, q1, z, _⟩ := L.fly.there
  intro A Q E s k q
  exact wpAny_typeOf_ref (k _ _ q1) (z.1 ▸ q)
/-- the suite has run; the name goes -/
theorem suite_end {i : Nat} {n : Str} {p : Pos} {oe : Obj} {D : Ends} (ok : X.Ok) (nd : X.N.Nodup) (ni : X.N[i]? = some n) (nl : X.env.kindOf n = some .local) : ∀ (f : Flow), SP (X.suite a ((a, oe) :: (X.pn ++ pins))) [] (goneEnds i D) f t →
    wpAny (model X.prog X.w) X.A (do bindName X.env n .none; unbindBehindTheSuite X.env n p) (fun _ t' => SP X pins D f t') X.xe t := by
  intro f hf
  have out : ∀ {τ' : L2.St} {G' : Hp} {R : Shared → Prop}, L2.Inv (X.suite a ((a, oe) :: (X.pn ++ pins))) [] τ' G' t → (∀ t', L2.Inv X pins (τ'.set i none) G' t' → R t') → wpAny (model X.prog X.w) X.A (do bindName X.env n .none; unbindBehindTheSuite X.env n p) (fun _ t' => R t') X.xe t :=
    fun S r => gone_ok (S.unsuite ok) nd ni nl r
  match f, hf with
  | .next, ⟨τ', G', S, q⟩ => exact out S fun t' J => ⟨_, G', J, q⟩
  | .brk, ⟨τ', G', S, q⟩ => exact out S fun t' J => ⟨_, G', J, q⟩
  | .cont, ⟨τ', G', S, q⟩ => exact out S fun t' J => ⟨_, G', J, q⟩
  | .ret u, ⟨v, τ', G', S, r, q⟩ => exact out S fun t' J => ⟨v, _, G', J, r, q⟩
theorem sp_back {D : Ends} {pn : List (Addr × Obj)} {xe : Value → Shared → Prop} (ok : X.Ok) : ∀ (f : Flow), SP (X.tr (X.pn ++ pins) xe) [] D f t → SP X pins D f t
  | .next, ⟨τ', G', J, q⟩ => ⟨τ', G', J.ofTry ok, q⟩
  | .brk, ⟨τ', G', J, q⟩ => ⟨τ', G', J.ofTry ok, q⟩
  | .cont, ⟨τ', G', J, q⟩ => ⟨τ', G', J.ofTry ok, q⟩
  | .ret u, ⟨v, τ', G', J, r, q⟩ => ⟨v, τ', G', J.ofTry ok, r, q⟩
end
section
variable {X : Cx} {x1 x2 x3 n : Str} {c1 c2 c3 : Value} {i : Nat} {body suite : List Stmt} {b₀ : Stmt} {p1 p2 p3 tp pos pos' : Pos} {kk : Nat} {tb : L2.WX → TS} {ts : Addr → Value → Option Addr → TS}
abbrev clause3 (x1 x2 x3 n : Str) (p1 p2 p3 tp pos' : Pos) (kk : Nat) (suite : List Stmt) : ExceptHandler := .ExceptHandler (some (.Tuple [.Name x1 p1, .Name x2 p2, .Name x3 p3] kk tp)) (some n) suite pos'
theorem ps_try_as3 (hs : X.stack = X.env :: X.outer) (fr : X.env.frame = some X.env.locals) (nd : X.N.Nodup) (ni : X.N[i]? = some n) (nl : X.env.kindOf n = some .local) (n1 : Names X x1 c1) (n2 : Names X x2 c2) (n3 : Names X x3 c3)
    (hb : ∀ (W : L2.WX) (pn : List (Addr × Obj)) (xe : Value → Shared → Prop), Takes (X.tr pn xe) W → PassesOwn (model X.prog X.w) X.A X.env xe → PSs (X.tr pn xe) body (tb W))
    (hsu : ∀ (a : Addr) (oe : Obj) (cls : Value) (d : Option Addr) (pn : List (Addr × Obj)), Zc cls d oe → (∃ vs, oe.data = .fields vs) → X.base.get? a = none → PSs (X.suite a ((a, oe) :: pn)) (b₀ :: suite) (ts a cls d)) :
    PS X (.Try body [clause3 x1 x2 x3 n p1 p2 p3 tp pos' kk (b₀ :: suite)] [] [] pos) (fun D σ H => tb (wAs3 X.K [c1, c2, c3] i ts D) D σ H) := by
  constructor
  intro pins s σ H D inv want
  have ok := inv.ok
  have fra : X.A.frames = some (X.env :: X.outer) := ok.frames.trans (by rw [hs])
  apply wpAny_Try_except
  refine wpAny_mono ((hb (wAs3 X.K [c1, c2, c3] i ts D) (X.pn ++ pins) (fun e t₁ => wpAny (model X.prog X.w) X.A (noteFrame e X.env) (fun _ t₂ => wpAny (model X.prog X.w) X.A (setFlight e none) (fun _ t₃ =>
    wpAny (model X.prog X.w) X.A (handleBy e X.env [clause3 x1 x2 x3 n p1 p2 p3 tp pos' kk (b₀ :: suite)]) (SP X pins D) X.xe t₃) X.xe t₂) X.xe t₁) ?_ PassesOwn.looking).run [] s σ H D (inv.toTry _) want) ?_ fun _ _ y => y
  · rintro u t ⟨a, B, sI, _, τ, G, cls, d, rfl, J0, nb, up, sky, na, os, ag, match3, go⟩
    have J := J0.ofTry ok
    refine Sky.land Zc.steady fra fr (hs ▸ sky) fun h1 fly1 up1 => ?_
    have low : X.base.get? a = none := by
      rcases q : X.base.get? a with _ | o
      · rfl
      · by_cases hm : a ∈ frs X.stack
        · have z := (J.stack.mem hm).1
          rw [q] at z
          cases z
        · have z := nb a o (J.bk a o q) hm
          rw [fly1.2.1] at z
          cases z
    have L1 : Landed X pins τ G B a cls d { t with heap := h1 } := .mk' (J.landed nb fly1.1 (up.trans up1) os ag) fly1 na low
    refine wpAny_handleBy_cons (codeAny_handlers_test (wpAny_Tuple (wpAny_items_cons (L1.named fr n1 (wpAny_items_cons (L1.named fr n2 (wpAny_items_cons (L1.named fr n3 (wpAny_items_nil ⟨by size_fits, ?_⟩))))))))) (by rintro ⟨⟩)
    have grown : ∀ b o, h1.get? b = some o → (h1.push { cls := .type "tuple", data := .seq [c1, c2, c3].toArray }).get? b = some o := fun _ _ => Heap.get?_push_of_some _
    have J2 : L2.Inv X pins τ G { t with heap := h1.push { cls := .type "tuple", data := .seq [c1, c2, c3].toArray } } := L1.inv.kept (t' := t.toks) grown
    refine (PySem.W.exm_tup3 (M := model X.prog X.w) J2.kIn (L1.ty.keeps grown) (Heap.get?_push_size h1 rfl) match3).here (codeAny_handlers_suite_as ?_)
    refine PySem.HandSPX.lands_againZ (flying_keep grown fly1) fun h3 fly3 up3 => ?_
    have L3 : Landed X pins τ G B a cls d { t with heap := h3 } := .mk' (J.landed nb fly3.1 (((up.trans up1).trans (.of_keeps grown)).trans up3) os ag) fly3 na low
    obtain ⟨oe, _, z, hf, S3⟩ := L3.suite fr
    refine store_ok (X := X.suite a ((a, oe) :: (X.pn ++ pins))) (v := .ref a) S3 nd ni (.inl nl) rfl (fun t4 S4 => ?_) (.inr nl)
    exact wpAny_mono ((hsu a oe cls d (X.pn ++ pins) z hf low).run [] t4 _ G _ S4 (go a na)) (fun f t5 => suite_end ok nd ni nl f) fun _ _ y => y.elim
  · intro f t hf
    have := sp_back (pn := []) ok f hf
    cases f with
    | next => exact wpAny_execs_nil this
    | _ => exact this
end
end DL

/- part -/
set_option Elab.async false
set_option linter.all false
set_option maxRecDepth 100000
set_option maxHeartbeats 1000000
namespace DL
open PySem PySem.Spec PyProof.Rows L2
/-! ### attributes -/
def tXe (K : PySem.W.Frag) (te : TE) (f : Str) : TE := fun σ H Q => te σ H fun x H1 => ∃ (a C dd : Addr) (oe : Obj) (fs : List (Str × V)) (v : V), x = .ref a ∧ H1 a = some (xo a oe) ∧ Zc (.ref C) (some dd) oe ∧ (∃ vs, oe.data = .fields vs) ∧ H1 dd = some (.xd fs) ∧
  XfC K C ∧ PySem.W.findIn K (.ref C) f = some none ∧ fs.lookup f = some v ∧ Q v H1
theorem xo_at {P : Program} {w : World} {H : Hp} {h : Heap} {a : Addr} {oe : Obj} (hok : HOk P w H h) (e : H a = some (xo a oe)) : h.get? a = some oe := by
  have x : ObjOk P w H h a (.ext fun h => h.get? a = some oe) := hok a _ e
  exact x.1
theorem xo_ok {P : Program} {w : World} {H : Hp} {h : Heap} {a : Addr} {oe : Obj} (e : h.get? a = some oe) : ObjOk P w H h a (xo a oe) := ⟨e, ⟨oe, e⟩, fun h1 h2 z k => k _ z⟩
/-- the field's value, at the state -/
theorem xo_get {X : Cx} {pins : List (Addr × Obj)} {τ : L2.St} {G : Hp} {t : Shared} {a C dd : Addr} {oe : Obj} {fs : List (Str × V)} {v : V} {n : Str} {R : VK} {sw : Bool} (inv : L2.Inv X pins τ G t) (ea : G a = some (xo a oe)) (z : Zc (.ref C) (some dd) oe) (fld : ∃ vs, oe.data = .fields vs) (ed : G dd = some (.xd fs))
    (xf : XfC X.K C) (no : PySem.W.findIn X.K (.ref C) n = some none) (l : fs.lookup n = some v) (q : R v G) : wpAny (model X.prog X.w) X.A (getAttr (.ref a) n sw) (EP X pins τ R) X.xe t := by
  rcases fld with ⟨vs, ev⟩
  rcases (show ObjOk X.prog X.w G t.heap dd (.xd fs) from inv.hok dd _ ed) with ⟨mA, ns, rel⟩
  have inst : ∀ od, t.heap.get? dd = some od → PySem.W.InstAt t.heap a oe C (some od) := fun od ho => by
    refine ⟨xo_at inv.hok ea, z.1, ?_, by rw [z.2]; exact ho⟩
    unfold PySem.W.notCls
    rw [ev] <;> rfl
  rcases lookIn_ns ns with ⟨od, ho, hl⟩
  rcases RelO.some_of (v := v) (o := mA n) (l ▸ rel n) with ⟨u, hu, ru⟩
  exact HandSPX.exc_get inv.kIn (inst od ho) xf.ga xf.gg xf.exC (PySem.W.findObj_own xf.hdC no rfl ((hl n).trans (by rw [hu]))) (handed_of ru) ⟨v, G, inv.tok _, ru, q⟩
theorem pe_xe {X : Cx} {e : Expr} {te : TE} {pos : Pos} {n : Str} (he : PE X e te) (hb : attributeBase e n X.env (eval e X.env) = eval e X.env := by rfl) : PE X (.Attribute e n pos) (tXe X.K te n) := by
  constructor
  intro pins s σ H Q inv want
  refine attr_of hb (thn (he.run pins s σ H _ inv want) ?_)
  rintro u t ⟨_, G, J, ru, a, C, dd, oe, fs, v, rfl, ea, z, fld, ed, xf, no, l, q⟩
  rw [show u = Value.ref a from ru]
  exact xo_get J ea z fld ed xf no l q
def attrD (f : Str) : D → Option RV
  | .obj _ fs => (fs.lookup f).map RV.im
  | .exc _ fs => (fs.lookup f).map RV.im
  | _ => none
theorem repF_lookup {M : Mx} {F : Hp} {f : Str} : ∀ {vs : List (Str × V)} {fs : List (Str × D)} {d : D}, RepF M F vs fs → fs.lookup f = some d → ∃ v, vs.lookup f = some v ∧ Rep M F v d
  | _, _, _, .nil, h => by cases h
  | _, _, d, @RepF.cons _ _ g v vs d0 fs r t, h => by
    rw [List.lookup_cons] at h ⊢
    cases e : f == g with
    | true =>
      rw [e] at h
      cases h
      exact ⟨v, rfl, r⟩
    | false =>
      rw [e] at h
      exact repF_lookup t h
theorem lookup_mem {f : Str} {β : Type} : ∀ {fs : List (Str × β)} {d : β}, fs.lookup f = some d → f ∈ fs.map (·.1)
  | [], _, h => by cases h
  | (g, d0) :: fs, d, h => by
    rw [List.lookup_cons] at h
    split at h
    · rename_i e
      rw [eq_of_beq e]
      exact List.mem_cons_self
    · exact List.mem_cons_of_mem _ (lookup_mem h)
section
variable {P : Program} {w : World} {base : Heap} {N : List Str} {sc : Scope} {j : Nat}
variable {M : Mx} {W : WX} {X : Cx} {F H F' H' F1 H1 F2 H2 H0 : Hp} {σ σ1 : L2.St} {ρ ρ1 ρ2 : SE}
variable {a b c e : Expr} {ma mb m : DM RV} {es : List Expr} {pos p p' : Pos} {x f : Str}
theorem de_attr (hK : M.K = X.K) (ha : DE X M W a ma) (hb : attributeBase a f X.env (eval a X.env) = eval a X.env := by rfl) : DE X M W (.Attribute a f pos) (dOp1 (attrD f) ma) := by
  obtain ⟨ta, pa, qa⟩ := ha
  have p1 := pe_fld (pos := pos) pa hb
  have p2 := pe_xe (pos := pos) pa hb
  refine ⟨fun σ H Q => tFld X.K ta f σ H Q ∨ tXe X.K ta f σ H Q, ⟨fun pins s σ H Q I h => ?_⟩, fun σ H F ρ Q sm h => ?_⟩
  · rcases h with h | h
    · exact p1.run pins s σ H Q I h
    · exact p2.run pins s σ H Q I h
  · unfold dOp1 at h
    have qa := fun Q => qa σ H F ρ Q sm
    cases e1 : ma ρ with
    | bad =>
      rw [e1] at h
      exact h.elim
    | ex x ρ1 =>
      rw [e1] at h qa
      exact .inl (qa _ h)
    | ok r ρ1 =>
      rw [e1] at h qa
      have h : Post M W σ ρ F H (ofO ((look ρ1 r).bind (attrD f)) ρ1) Q := h
      cases e2 : look ρ1 r with
      | none =>
        rw [e2] at h
        exact h.elim
      | some d =>
        rw [e2] at h
        have h : Post M W σ ρ F H (ofO (attrD f d) ρ1) Q := h
        cases d with
        | obj c fs =>
          refine .inl (qa _ fun F1 H1 v st1 sm1 ok1 => ?_)
          obtain ⟨rv, e3, k⟩ := Post.fin' h st1 sm1
          have e3 : (fs.lookup f).map RV.im = some rv := e3
          obtain ⟨d1, e4, e5⟩ := map_some e3
          have vw := ok1.view0 sm1 e2
          obtain ⟨ad, dx, vs, ev, h1, h2, h3⟩ := vw
          obtain ⟨v1, e6, r1⟩ := repF_lookup h2 e4
          refine ⟨_, _, _, _, v1, ev, h1, by rw [← hK]; exact h3.1, by rw [← hK]; exact h3.2 f (lookup_mem e4), e6, ?_⟩
          subst e5
          exact k _ _ _ (Alc.refl sm1.sub) r1
        | exc c fs =>
          refine .inr (qa _ fun F1 H1 v st1 sm1 ok1 => ?_)
          obtain ⟨rv, e3, k⟩ := Post.fin' h st1 sm1
          have e3 : (fs.lookup f).map RV.im = some rv := e3
          obtain ⟨d1, e4, e5⟩ := map_some e3
          have vw := ok1.view0 sm1 e2
          cases vw with
          | exc h1 h2 h3 h4 h5 h6 =>
            obtain ⟨v1, e6, r1⟩ := repF_lookup h5 e4
            refine ⟨_, _, _, _, _, v1, rfl, sm1.sub.go _ _ h1, h2, h3, sm1.sub.go _ _ h4, by rw [← hK]; exact h6.1, by rw [← hK]; exact h6.2 f (lookup_mem e4), e6, ?_⟩
            subst e5
            exact k _ _ _ (Alc.refl sm1.sub) r1
        | _ => exact h.elim
end
/-! ### a def called with the caught exception -/
theorem hok_put {P : Program} {w : World} {H : Hp} {h : Heap} {a : Addr} {oe : Obj} (hok : HOk P w H h) (n : H a = none) (e : h.get? a = some oe) : HOk P w (upd H a (xo a oe)) h := fun b o z => by
  by_cases hb : b = a
  · subst hb
    rw [upd_same] at z
    cases z
    exact xo_ok e
  · rw [upd_ne hb] at z
    exact (hok b o z).stay (fun c v _ y => y) (fun c hc => by rw [upd_ne (ne_of_none hc n)]; exact hc) (fun c xs hc => by rw [upd_ne (ne_of_none hc n)]; exact hc)
theorem xo_own {a x : Addr} {oe : Obj} : xo a oe ≠ .own x := fun z => by
  have z' : HO.ext _ = HO.own x := z
  cases z'
theorem xo_tup {a : Addr} {oe : Obj} {xs : List V} : xo a oe ≠ .tup xs := fun z => by
  have z' : HO.ext _ = HO.tup xs := z
  cases z'
theorem hok_del {P : Program} {w : World} {H : Hp} {h : Heap} {a : Addr} {oe : Obj} (hok : HOk P w H h) (e : H a = some (xo a oe)) : HOk P w (del H a) h := fun b o z => by
  have hba : b ≠ a := fun y => by
    rw [y, del_same] at z
    cases z
  rw [del_ne hba] at z
  exact (hok b o z).stay (fun c v _ y => y) (fun c hc => by rw [del_ne (at_ne e hc xo_own)]; exact hc) (fun c xs hc => by rw [del_ne (at_ne e hc xo_tup)]; exact hc)
/-! a def that may be called while an exception is handled -/
structure FnQ (P : Program) (w : World) (K : PySem.W.Frag) (mg : Str → Option Value) (base : Heap) (k : Nat) (f : Addr) (fd : FuncData) (ps : List Str) (sp : Sp) : Prop where
  len : ∀ vs H Q E, sp vs H Q E → vs.length = ps.length
  go : ∀ (A : Around) (outer : List Env) (s : Shared) (H : Hp) (args : Args) (us : List Value) (vs : List V) (Q : VK) (E : XK), L2H.RoomH k A → Env0 P w K mg base A outer s H → BindsTo s fd args (ps.zip us) → Vals vs us → sp vs H Q E →
    codeAny (model P w) A (.call (.ref f) args) (CR (L2.CX P w) outer P w H s Q E) s
theorem fn_DQ {M : Mx} {P : Program} {w : World} {base : Heap} {x qual : Str} {st : Stmt} {f : Addr} {fd : FuncData} {N ps : List Str} {k : Nat} {mb : DM Fl} (Fu : Fun M.K x qual st f fd) (S : FnScope N ps (defScope st))
    (hb : ∀ (cdv : Value) (A : Around) (outer : List Env) (s : Shared) (H : Hp) (E : XK) (p : Addr × Obj), L2H.RoomH k (A.deeper (envOfC qual (defScope st) s.heap.objs.size f cdv)) →
      DSs (L2H.cxH (L2.CX P w) P w M.K M.mg base N qual (defScope st) f cdv A outer s H E p) M (fun cls d _ H' => E cls d H') (defBody st) mb) :
    FnQ P w M.K M.mg base (k + 1) f fd ps (spD M ps.length (mFn N.length mb)) := by
  have hN : ps.length ≤ N.length := by
    have := congrArg List.length S.pre
    rw [List.length_take] at this
    omega
  have hlen : ∀ vs H Q E, spD M ps.length (mFn N.length mb) vs H Q E → vs.length = ps.length := fun vs H Q E h => by
    obtain ⟨F, svs, h1, _⟩ := h
    exact h1
  obtain ⟨oc, od, kV, doc, pm, an, cdv, ct, osl, efd, lk, hcd⟩ := Fu.ex
  subst efd
  refine ⟨hlen, fun A outer s H args us vs Q E hr e0 bd r hsp => ?_⟩
  have inK : M.K.In s.heap := e0.mod.kin.keeps fun b o q => (e0.bs b o q).1
  have nolim : s.heap.NoLimit := e0.mod.nolimit.keeps fun b o q => (e0.bs b o q).1
  have par : ∀ y ∈ ps.zip us, (defScope st).names.lookup y.1 = some .local ∨ ((defScope st).names.lookup y.1 = some .cell ∧ ((cellsFrom (s.heap.objs.size + 1) (defScope st).names []).lookup y.1).isSome = true) := fun ⟨n, v⟩ hy =>
    (S.par n (List.of_mem_zip hy).1).elim .inl fun q => .inr ⟨q, PySem.W.cellsFrom_some _ _ _ (.inl q)⟩
  -- the def's own object as the pinned one
  have hob := e0.mod.kin _ _ lk
  have pin : L2H.PinOk outer H s (f, ⟨oc, od, .func (PySem.W.fnOf x qual (defArgs st) (defBody st) (defScope st) .none kV doc pm an cdv ct), osl⟩) := ⟨inK _ _ lk, (e0.bs _ _ hob).2, (fun hm => by
    have := (e0.funs.mem hm).1
    rw [hob] at this
    cases this), fun v z => by cases z⟩
  refine codeAny_call_function hr.depth (inK _ _ lk) rfl S.co S.gen rfl (PySem.W.codeRec_of inK hcd) (bd _ _ _ _ ?_)
  refine wpAny_newFunctionEnv_cells S.kind par fun env he s1 ic => ?_
  subst he
  refine ⟨nolim.keeps ic.toInCall.keep, codeAny_func ?_⟩
  obtain ⟨t, pt, ht⟩ := fn_body hN (hb cdv A outer s H E _ (hr.deeper _)) hsp
  have I := L2H.inv_startH (CX := L2.CX P w) (E := E) (qual := qual) (cd := cdv) S pin e0 (hlen _ _ _ _ hsp) r ic
  refine wpAny_mono (pt.run [] s1 (L2.start N vs) H _ I ht) (fun fl s' hs => ?_) fun e s' hs => hs
  match fl, hs with
  | .ret u, ⟨v, σ', H', J, rv, q⟩ => exact ⟨v, H', J.os, J.bare, J.base, J.hok, rv, q⟩
  | .next, ⟨σ', H', J, q⟩ => exact ⟨V.non, H', J.os, J.bare, J.base, J.hok, rfl, q⟩
  | .brk, ⟨_, _, _, q⟩ => exact False.elim q
  | .cont, ⟨_, _, _, q⟩ => exact False.elim q
def tExc (sp : Sp) (i : Nat) (a : Addr) (oe : Obj) : TE := fun σ H Q => σ[i]? = some (some (.ref a)) ∧ sp [.ref a] (upd H a (xo a oe)) (fun v H2 => H2 a = some (xo a oe) ∧ Q v (del H2 a)) fun _ _ _ => False
section
variable {X : Cx} {a : Addr} {oe : Obj} {pn : List (Addr × Obj)} {k i : Nat} {f : Addr} {fd : FuncData} {ps : List Str} {sp : Sp} {x n : Str} {p p1 pos : Pos}
theorem pe_exc (F : FnQ X.prog X.w X.K X.mg X.base k f fd ps sp) (hr : Room k X.A) (hg : Gl X x) (hm : X.mg x = some (.ref f)) (hk : PySem.W.keepIn X.K (.ref f) = true) (hb : Binds X.K fd ps []) (nb : X.base.get? a = none)
    (hN : X.N[i]? = some n) (hv : Vis X.env.scope n) (hdb : (x == ("__debug__" : Str)) = false) (hd : (n == ("__debug__" : Str)) = false) (hcd : (n == ("__classdict__" : Str)) = false) :
    PE (X.suite a ((a, oe) :: pn)) (.Call (.Name x p) [.Name n p1] [] pos) (tExc sp i a oe) := by
  refine ⟨fun pins s σ H Q I h => ?_⟩
  obtain ⟨hi, h⟩ := h
  have hr' : L2H.RoomH k (X.suite a ((a, oe) :: pn)).A := ⟨hr.dp, hr.un⟩
  refine wpAny_Call_Name_kw (ld_glob (X := X.suite a ((a, oe) :: pn)) I hg hm ?_ hdb)
  have pv : PE (X.suite a ((a, oe) :: pn)) (.Name n p1) (tVar i) := pe_var hN hv hd hcd
  refine PySem.W.callWith_K (h₀ := X.base) I.ok.mod.kin hk (thn ((pa_cons pv pa_nil (by rfl)).run pos pins s σ H (fun vs H1 => vs = [.ref a] ∧ H1 = H) I ⟨.ref a, hi, rfl, rfl⟩) fun us s1 ⟨vs, H1, I1, r, e1, e2⟩ => ⟨I1.kIn, ?_⟩) (by rfl) (by rfl)
  subst e1
  rw [e2] at I1
  obtain ⟨hat, na, nL, nF, _⟩ := I1.pin (a, oe) (List.mem_append_left _ List.mem_cons_self)
  have e0 := I1.env0
  have nst : a ∉ frs X.stack := fun z => (List.mem_cons.mp (I1.stkSub _ z)).elim (fun z => nL z) (fun z => nF z)
  have e0' : Env0 X.prog X.w X.K X.mg X.base (X.suite a ((a, oe) :: pn)).A X.stack s1 (upd H a (xo a oe)) :=
    ⟨e0.frames, e0.mod, fun b o q => ⟨(e0.bs b o q).1, by
      rw [upd_ne]
      · exact (e0.bs b o q).2
      · intro z
        rw [z, nb] at q
        cases q⟩, e0.bsz, e0.funs, fun b hb => by
      rw [upd_ne]
      · exact e0.frf b hb
      · intro z
        rw [z] at hb
        exact nst hb, hok_put e0.hok na hat, e0.bare⟩
  have hl : us.length = ps.length := by rw [← r.length]; exact F.len _ _ _ _ h
  refine wpAny_call (codeAny_mono (F.go _ X.stack s1 (upd H a (xo a oe)) ⟨us, []⟩ us [.ref a] _ _ hr' e0' (by simpa using hb s1 us I1.kIn (by simpa using hl)) r h) fun rr s' hq => ?_)
  cases rr with
  | error er =>
    obtain ⟨_, _, _, _, _, _, _, _, _, _, _, _, z⟩ := hq
    exact z.elim
  | ok fl =>
    cases fl with
    | next => exact False.elim hq
    | brk => exact False.elim hq
    | cont => exact False.elim hq
    | ret u =>
      obtain ⟨v, H2, os, bare, un, hok, rv, ea, q⟩ := hq
      have hat2 := xo_at hok ea
      have U : Un (frs X.stack) [] H (del H2 a) s1.heap s'.heap := {
        keep := fun b o z n hf hx => by
          by_cases hb : b = a
          · subst hb
            rw [hat] at z
            cases z
            exact hat2
          · exact un.keep b o z (by rw [upd_ne hb]; exact n) hf hx
        slot := fun b o z n hf hx => un.slot b o z (by
          rw [upd_ne]
          · exact n
          · intro y
            rw [y] at hf
            exact nst hf) hf hx
        free := fun b o z n hx => by
          by_cases hb : b = a
          · rw [hb]
            exact del_same
          · rw [del_ne hb]
            exact un.free b o z (by rw [upd_ne hb]; exact n) hx
        there := fun b o z hx => un.there b o z hx
        tups := fun b xs z => by
          have hb := ne_of_none z na
          rw [del_ne hb]
          exact un.tups b xs (by rw [upd_ne hb]; exact z)
        frzs := fun b o v z => by
          have hb := ne_of_none z na
          rw [del_ne hb]
          exact un.frzs b o v (by rw [upd_ne hb]; exact z)
        tbls := fun b ps z => by
          have hb := ne_of_none z na
          rw [del_ne hb]
          exact un.tbls b ps (by rw [upd_ne hb]; exact z) }
      exact ⟨v, _, I1.call' (ch := []) os U (hok_del hok ea) bare (fun b z => absurd z (by simp)), rv, q⟩
end
end DL

/- part -/
set_option Elab.async false
set_option linter.all false
set_option maxRecDepth 100000
set_option maxHeartbeats 1000000
namespace DL
open PySem PySem.Spec PyProof.Rows L2
/-! ### a def under a handled exception: where one stands -/
structure CxQ (M : Mx) (N : List Str) (sc : Scope) (X : Cx) : Prop where
  hK : M.K = X.K
  hN : X.N = N
  hs : X.env.scope = sc
  u64 : X.A.units + 64 < cLine
  u65 : X.A.units + 65 < cLine
theorem dq_v {M : Mx} {N : List Str} {sc : Scope} {X : Cx} {W : WX} {x : Str} {p : Pos} (C : CxQ M N sc X) (i : Nat) (h : NameOk sc x) (hi : N[i]? = some x := by rfl) : DE X M W (.Name x p) (dVar i) := de_var i (by rw [C.hN]; exact hi) (by rw [C.hs]; exact h.vis) h.nd h.nc
theorem cxQ_of {M : Mx} {P : Program} {w : World} {base : Heap} {N : List Str} {qual : Str} {sc : Scope} {f : Addr} {cd : Value} {A : Around} {outer : List Env} {s : Shared} {H : Hp} {E : XK} {p : Addr × Obj} {k : Nat} (hr : L2H.RoomH k (A.deeper (envOfC qual sc s.heap.objs.size f cd))) :
    CxQ M N sc (L2H.cxH (L2.CX P w) P w M.K M.mg base N qual sc f cd A outer s H E p) :=
  ⟨rfl, rfl, rfl, by have := hr.un; show (A.deeper (envOfC qual sc s.heap.objs.size f cd)).units + 64 < cLine; omega, by have := hr.un; show (A.deeper (envOfC qual sc s.heap.objs.size f cd)).units + 65 < cLine; omega⟩
/-! ### ask, or tell the error -/
/-- what the clause makes of an exception -/
def ExTell (K : PySem.W.Frag) (spF : Sp) (cs : List Value) (cls : Value) (d : Option Addr) (H : Hp) (Q : VK) : Prop :=
  PySem.W.exmAny K cls cs = some true ∧ ∃ (C dd : Addr) (fs : List (Str × V)) (v : V), cls = .ref C ∧ d = some dd ∧ XfC K C ∧ PySem.W.findIn K (.ref C) "tag" = some none ∧ H dd = some (.xd fs) ∧ fs.lookup ("tag" : Str) = some v ∧
    ∀ (a : Addr) (oe : Obj), H a = none → Zc cls d oe → (∃ vs, oe.data = .fields vs) → spF [.ref a] (upd H a (xo a oe)) (fun v2 H2 => H2 a = some (xo a oe) ∧ [v, v2].length ≤ sizeLine ∧ ∀ p, del H2 a p = none → Q (.ref p) (upd (del H2 a) p (.tup [v, v2]))) fun _ _ _ => False
def TTout (K : PySem.W.Frag) (spF : Sp) (cs : List Value) : (XK → Hp → VK → Prop) → Hp → VK → Prop := fun tl H Q =>
  tl (fun cls d H' => ExTell K spF cs cls d H' Q) H fun v H' => [V.str "", v].length ≤ sizeLine ∧ ∀ p, H' p = none → Q (.ref p) (upd H' p (.tup [.str "", v]))
theorem out_gives {X : Cx} {k : Nat} {g fF e1 e2 e3 : Addr} {fdF : FuncData} {spF : Sp} {sg : Scope} {cdg : Value} {q x x1 x2 x3 fn ask err : Str} {p1 p2 p3 p4 p5 p6 p7 p8 p9 p10 p11 p12 p13 p14 p15 p16 p17 : Pos} {j k1 k2 k3 : Nat} {N : List Str} {qF : List Str}
    (eN : N = [ask, err]) (hN : N.Nodup) (hk : sg.kind = .function) (hv0 : Vis sg ask) (herr : sg.names.lookup err = some .local) (hd0 : (err == ("__debug__" : Str)) = false) (hc0 : (err == ("__classdict__" : Str)) = false)
    (g1 : sg.names.lookup x1 = some .globalImplicit) (g2 : sg.names.lookup x2 = some .globalImplicit) (g3 : sg.names.lookup x3 = some .globalImplicit) (g4 : sg.names.lookup fn = some .globalImplicit)
    (d1 : (x1 == ("__debug__" : Str)) = false) (d2 : (x2 == ("__debug__" : Str)) = false) (d3 : (x3 == ("__debug__" : Str)) = false) (d4 : (fn == ("__debug__" : Str)) = false)
    (m1 : X.mg x1 = some (.ref e1)) (m2 : X.mg x2 = some (.ref e2)) (m3 : X.mg x3 = some (.ref e3)) (m4 : X.mg fn = some (.ref fF))
    (FF : FnQ X.prog X.w X.K X.mg X.base k fF fdF qF spF) (kF : PySem.W.keepIn X.K (.ref fF) = true) (bF : Binds X.K fdF qF []) (hr : Room (k + 1) X.A) :
    LamX.GivesTo X N x sg g cdg [.Try [.Return (some (.Tuple [.Constant (.str "") j p1, .Call (.Name ask p2) [] [] p3] k1 p4)) p5]
      [.ExceptHandler (some (.Tuple [.Name x1 p6, .Name x2 p7, .Name x3 p8] k2 p9)) (some err) [.Return (some (.Tuple [.Attribute (.Name err p10) "tag" p11, .Call (.Name fn p12) [.Name err p13] [] p14] k3 p15)) p16] p17] [] [] pos] ask q (TTout X.K spF [.ref e1, .ref e2, .ref e3]) := by
  intro f c' s H Q tl act hc h
  subst eN
  have hr' : Room k (X.A.deeper (envOfC x sg s.heap.objs.size g cdg)) := hr.deeper _
  refine ⟨_, pss_one (ps_try_as3 (X := (cxOf C8.CX0 X.prog X.w X.K X.mg X.base [ask, err] x sg g cdg X.A X.stack s H C8.E0).nox) (i := 1) (n := err) (c1 := .ref e1) (c2 := .ref e2) (c3 := .ref e3)
      (tb := fun W D σ H => ∃ Ech : XK, (∀ cls d σ' H', Ech cls d H' → W cls d σ' H') ∧ σ[0]? = some (some (.ref f)) ∧ H c' = some (LamX.CodeO c' q) ∧ tl Ech H fun v H' => [V.str "", v].length ≤ sizeLine ∧ ∀ p, H' p = none → D.rt (.ref p) (upd H' p (.tup [.str "", v])))
      (ts := fun a cls d D σ H => ∃ (σ0 : L2.St) (C dd : Addr) (fs : List (Str × V)) (v : V), σ = σ0.set 1 (some (.ref a)) ∧ cls = .ref C ∧ d = some dd ∧ XfC X.K C ∧ PySem.W.findIn X.K (.ref C) "tag" = some none ∧ H dd = some (.xd fs) ∧ fs.lookup ("tag" : Str) = some v ∧
        ∀ oe : Obj, Zc cls d oe → (∃ vs, oe.data = .fields vs) → spF [.ref a] (upd H a (xo a oe)) (fun v2 H2 => H2 a = some (xo a oe) ∧ [v, v2].length ≤ sizeLine ∧ ∀ p, del H2 a p = none → D.rt (.ref p) (upd (del H2 a) p (.tup [v, v2]))) fun _ _ _ => False)
      rfl rfl hN rfl herr ⟨g1, d1, .inl m1⟩ ⟨g2, d2, .inl m2⟩ ⟨g3, d3, .inl m3⟩ (fun W pn xe tk _ => ?_) (fun a oe cls d pn hz hf nb => ?_)), ?_⟩
  · refine ⟨fun pins s' σ H' D I h' => ?_⟩
    obtain ⟨Ech, hW, h1, h2, h3⟩ := h'
    have hp := act W pn xe Ech p2 p3 tk hW
    exact (pss_one (ps_ret (pos := p5) (pe_tup (x1 := k1) (pos := p4) (pa_cons (pe_str (x := "") (j := j) (pos := p1)) (pa_cons hp pa_nil))))).run pins s' σ H' D I ⟨h1, h2, h3⟩
  · refine ⟨fun pins s' σ H' D I h' => ?_⟩
    obtain ⟨σ0, C, dd, fs, v, es, ec, ed, T, hno, e1, l, kk⟩ := h'
    have hlen : σ.length = 2 := I.len
    have hi : σ[1]? = some (some (.ref a)) := by
      rw [es] at hlen ⊢
      rw [List.length_set] at hlen
      rw [List.getElem?_set_self (by omega)]
    have pv : PE (((cxOf C8.CX0 X.prog X.w X.K X.mg X.base [ask, err] x sg g cdg X.A X.stack s H C8.E0).nox).suite a ((a, oe) :: pn)) (.Name err p10) (tVar 1) := pe_var rfl (.inl herr) hd0 hc0
    have pc := pe_exc (X := (cxOf C8.CX0 X.prog X.w X.K X.mg X.base [ask, err] x sg g cdg X.A X.stack s H C8.E0).nox) (oe := oe) (pn := pn) (i := 1) (x := fn) (n := err) (p := p12) (p1 := p13) (pos := p14) FF hr' g4 m4 kF bF nb rfl (.inl herr) d4 hd0 hc0
    have px := pe_xf (X := (cxOf C8.CX0 X.prog X.w X.K X.mg X.base [ask, err] x sg g cdg X.A X.stack s H C8.E0).nox) (a := a) (pn := pn) (pos := p11) (n := "tag") T hno hz hf pv
    exact (pss_one (ps_ret (pos := p16) (pe_tup (x1 := k3) (pos := p15) (pa_cons px (pa_cons pc pa_nil))))).run pins s' σ H' D I ⟨.ref a, hi, rfl, ec, dd, fs, v, ed, e1, l, hi, kk oe hz hf⟩
  · refine ⟨fun cls d H' => ExTell X.K spF [.ref e1, .ref e2, .ref e3] cls d H' Q, fun cls d σ' H' ⟨t1, C, dd, fs, v, ec, ed, T, hno, e1, l, kk⟩ => ⟨t1, fun a na => ⟨σ', C, dd, fs, v, rfl, ec, ed, T, hno, e1, l, fun oe hz hf => kk a oe na hz hf⟩⟩, rfl, hc, h⟩
end DL

/- part -/
set_option Elab.async false
set_option linter.all false
set_option maxRecDepth 100000
set_option maxHeartbeats 1000000
namespace DL
open PySem PySem.Spec PyProof.Rows L2
def outEx (mF : SE → R RV) (ok : Str → Bool) (e : Exc) (ρ : SE) : R RV := if ok e.cls = true then match e.fs.lookup ("tag" : Str), mF [.im (.exc e.cls e.fs)] with
  | some (.str t), .ok (.im d) _ => if flat d = true then .ok (.im (.tup [.str t, d])) ρ else .bad
  | _, _ => .bad else .bad
/-- _law_outcome(lambda: ..) -/
def dOut (mF : SE → R RV) (ok : Str → Bool) (mb : DM RV) : DM RV := fun ρ => match mb ρ with
  | .bad => .bad
  | .ok r ρ1 => (fz r ρ1).bind fun d ρ2 => .ok (.im (.tup [.str "", d])) ρ2
  | .ex e ρ1 => outEx mF ok e ρ1
structure CxL (P : Program) (w : World) (base : Heap) (M : Mx) (N : List Str) (sc : Scope) (j : Nat) (X : Cx) (W : WX) (c Pt : Addr) : Prop extends CxF P w base M N sc j X W where
  code : X.env.code = .ref c
  tb : LamX.TabB X.base X.mg c Pt
  mT : (Pt, X.env.qual ++ "<lambda>") ∈ M.T
  uT : ∀ p ∈ M.T, p.1 = Pt → p.2 = X.env.qual ++ "<lambda>"
structure OutAt (M : Mx) (st stF : Stmt) (ok : Str → Bool) (mF : SE → R RV) where
  dO : DefAt M "_law_outcome" st ["_law_ask"]
  dF : DefAt M "_law_field" stF ["_law_e"]
  e1 : Addr
  e2 : Addr
  e3 : Addr
  m1 : M.mg "EarlyError" = some (.ref e1)
  m2 : M.mg "UndefinedName" = some (.ref e2)
  m3 : M.mg "EmptyHistory" = some (.ref e3)
  cau : ∀ c, ok c = true → PySem.W.exmAny M.K (.ref (M.ca c)) [.ref e1, .ref e2, .ref e3] = some true
  fq : ∀ (P : Program) (w : World) (base : Heap), FnQ P w M.K M.mg base 1 dF.f dF.fd ["_law_e"] (spD M 1 mF)
structure OutSc (so : Scope) : Prop where
  Sg : FnScope ["_law_ask", "_law_e"] ["_law_ask"] so
  va : Vis so "_law_ask"
  le : so.names.lookup ("_law_e" : Str) = some .local
  g1 : so.names.lookup ("EarlyError" : Str) = some .globalImplicit
  g2 : so.names.lookup ("UndefinedName" : Str) = some .globalImplicit
  g3 : so.names.lookup ("EmptyHistory" : Str) = some .globalImplicit
  g4 : so.names.lookup ("_law_field" : Str) = some .globalImplicit
theorem heap_all (n : Nat) (o : Obj) (h : o.data ≠ .freed) : ∃ hh : Heap, ∀ b : Nat, b < n → hh.get? b = some o := by
  refine ⟨{ objs := Array.replicate n o }, fun b hb => ?_⟩
  unfold Heap.get?
  have e : (Array.replicate n o)[b]? = some o := by
    rw [Array.getElem?_replicate, if_pos hb]
  show (match (Array.replicate n o)[b]? with
    | some ⟨_, _, .freed, _⟩ => none
    | x => x) = some o
  rw [e]
  split
  · rename_i z
    cases z
    exact (h rfl).elim
  · rfl
theorem ne_xo_code {a c : Addr} {oe : Obj} {q : Str} : xo a oe ≠ LamX.CodeO c q := fun z => by
  have z1 : HO.ext (fun h => h.get? a = some oe) = HO.ext fun h => ∃ (oc : Obj) (vs : Array Value) (t : Tok), h.get? c = some oc ∧ oc.data = .fields vs ∧ vs[1]? = some (.str q t) := z
  injection z1 with z2
  have key : ∀ (k : Value) (t : Tok), oe = { cls := k, data := .fields #[.none, .str q t] } := fun k t => by
    obtain ⟨hh, hg⟩ := heap_all ((a : Nat) + (c : Nat) + 1) { cls := k, data := .fields #[.none, .str q t] } (by intro y; cases y)
    have h1 := congrFun z2 hh
    have h2 : hh.get? a = some oe := by
      rw [h1]
      exact ⟨_, _, _, hg c (Nat.lt_succ_of_le (Nat.le_add_left _ _)), rfl, rfl⟩
    rw [hg a (Nat.lt_succ_of_le (Nat.le_add_right _ _))] at h2
    exact (Option.some.inj h2).symm
  have tk : Tok := by
    exact default
  have k1 := key .none tk
  rw [key (.bool true) tk] at k1
  have := congrArg Obj.cls k1
  cases this
section
variable {P : Program} {w : World} {base : Heap} {N : List Str} {sc : Scope} {j : Nat}
variable {M : Mx} {W : WX} {X : Cx} {F H F' H' F1 H1 F2 H2 H0 : Hp} {σ σ1 : L2.St} {ρ ρ1 ρ2 : SE}
theorem SubF.fre (s : SubF F H) (t : NoTb F) {p : Addr} (h : Fre H p) : F p = none := by
  cases e : F p with
  | none => rfl
  | some o =>
    by_cases hb : ∃ n vs, o = bw n vs
    · obtain ⟨n, vs, rfl⟩ := hb
      exact (h.lst (s.bk p n vs e)).elim
    · exact (h.no (s.go p o e fun n vs z => hb ⟨n, vs, z⟩) fun ps z => t p ps (by rw [e, z])).elim
theorem xo_nb {a : Addr} {oe : Obj} : ∀ n vs, xo a oe ≠ bw n vs := fun n vs z => by
  have z' : HO.ext _ = bw n vs := z
  cases z'
/-- the tables may grow -/
theorem grow {H1 : Hp} (sm : Sim M F H σ ρ) (e : LamX.ExtN H H1) (t : LamX.Tabs M.T H1) : Stp F H σ ρ F H1 σ ρ ∧ Sim M F H1 σ ρ := by
  have lst : ∀ {b : Addr} {o : HO}, H b = some o → (∀ ps, o ≠ .tbl ps) → H1 b = some o := fun h n => e _ _ h n
  refine ⟨⟨Same.refl _, fun b o h _ nt => lst h nt, fun b h => .inl h, fun b o h => .inl h, fun b h o q => ?_, fun i ds h => ⟨rfl, ds, h⟩, fun i ds h => ⟨ds, h⟩⟩, ⟨⟨⟨fun b o h nb => lst (sm.sub.go b o h nb) fun ps z => ?_, fun b n vs h => lst (sm.sub.bk b n vs h) (fun ps z => by cases z)⟩, sm.ntb⟩, t, sm.len, sm.im, fun i io ds h => ?_, sm.inj⟩⟩
  · cases o with
    | tbl ps => exact ⟨ps, rfl⟩
    | _ => exact (h.no (lst q fun ps z => by cases z) fun ps z => by cases z).elim
  · subst z
    exact sm.ntb b ps h
  · obtain ⟨a, vs, e1, e2, e3, e4⟩ := sm.ow i io ds h
    exact ⟨a, vs, e1, lst e2 e4.nt, e3, e4⟩
end
end DL

/- part -/
set_option Elab.async false
set_option linter.all false
set_option maxRecDepth 100000
set_option maxHeartbeats 1000000
namespace DL
open PySem PySem.Spec PyProof.Rows L2
section
variable {P : Program} {w : World} {base : Heap} {N : List Str} {sc : Scope} {j : Nat}
variable {M : Mx} {W : WX} {X : Cx} {F H F' H' F1 H1 F2 H2 H0 : Hp} {σ σ1 : L2.St} {ρ ρ1 ρ2 : SE}
theorem xo_tbl {a : Addr} {oe : Obj} {ps : Array Value} : xo a oe ≠ .tbl ps := fun z => by
  have z' : HO.ext _ = HO.tbl ps := z
  cases z'
theorem xo_lst {a : Addr} {oe : Obj} {ps : List V} : xo a oe ≠ .lst ps := fun z => by
  have z' : HO.ext _ = HO.lst ps := z
  cases z'
theorem tabs_del {T : List (Addr × Str)} {H Hz : Hp} {a : Addr} {oe : Obj} (t : LamX.Tabs T H) (e : H a = some (xo a oe)) (k : ∀ b o, b ≠ a → H b = some o → Hz b = some o) : LamX.Tabs T Hz := fun p hp => by
  obtain ⟨ps, h1, h2, h3⟩ := t p hp
  refine ⟨ps, k _ _ (at_ne e h1 xo_tbl) h1, h2, fun pos cv hc => ?_⟩
  obtain ⟨c, e1, e2⟩ := h3 pos cv hc
  exact ⟨c, e1, k _ _ (at_ne e e2 ne_xo_code) e2⟩
/-- the clause tells -/
theorem tell_ok {mF : SE → R RV} {ok : Str → Bool} {cs : List Value} {cls : Value} {d : Option Addr} {e : Exc} {Q : VK} (cau : ∀ c, ok c = true → PySem.W.exmAny M.K (.ref (M.ca c)) cs = some true) (st : Stp F H σ ρ F' H' σ ρ1) (sm : Sim M F' H' σ ρ1) (x : ExcOk M F' H' cls d e)
    (h : Post M W σ ρ F H (outEx mF ok e ρ1) Q) : ExTell M.K (spD M 1 mF) cs cls d H' Q := by
  obtain ⟨c, fs⟩ := e
  obtain ⟨ec, dx, vs, ed, hdx, rf, xf, xn⟩ := x
  unfold outEx at h
  by_cases hok : ok c = true
  · rw [if_pos hok] at h
    split at h
    · rename_i t df ρf e1 e2
      by_cases hfl : flat df = true
      · rw [if_pos hfl] at h
        obtain ⟨v, l1, r1⟩ := repF_lookup rf e1
        refine ⟨by rw [ec]; exact cau c hok, _, dx, vs, v, ec, ed, xf, xn _ (lookup_mem e1), sm.sub.go _ _ hdx, l1, fun a oe na hz hf => ?_⟩
        rw [ec, ed] at hz
        have nF : F' a = none := sm.sub.free na
        have nd : dx ≠ a := ne_of_none (sm.sub.go _ _ hdx) na
        have supF : Same F' (upd F' a (xo a oe)) := same_upd nF
        have noOw : ∀ b, ¬ Own [some (V.ref a)] [SV.im (.exc c fs)] b := fun b ⟨i, ⟨io, ds, q⟩, _⟩ => by
          match i, q with
          | 0, q => cases q
        refine ⟨upd F' a (xo a oe), [.im (.exc c fs)], rfl, fun i sv q => ?_, ⟨⟨sm.sub.both xo_nb, sm.ntb.upd fun ps => xo_tbl⟩, sm.tabs.ext (same_upd na), rfl, fun i d' q => ?_, fun i io ds q => ?_, fun i l b o1 _ _ _ => ?_⟩, ?_⟩
        · match i, q with
          | 0, q =>
            cases q
            exact .inl ⟨_, rfl⟩
        · match i, q with
          | 0, q =>
            cases q
            refine ⟨_, rfl, .exc upd_same hz hf ?_ (rf.up supF) ⟨xf, xn⟩⟩
            rw [upd_ne nd]
            exact hdx
        · match i, q with
          | 0, q => cases q
        · obtain ⟨io, ds, q⟩ := o1
          match i, q with
          | 0, q => cases q
        · rw [e2]
          intro F3 H3 v2 st3 sm3 r3
          have r3 : Rep M F3 v2 df := r3
          have ea : H3 a = some (xo a oe) := sm3.sub.go _ _ (st3.same _ _ upd_same)
          refine ⟨ea, by show 2 ≤ sizeLine; decide, fun p hp => ?_⟩
          have keep : ∀ b o, H' b = some o → (∀ ps, o ≠ .tbl ps) → upd (del H3 a) p (.tup [v, v2]) b = some o := fun b o q nt => by
            have hba : b ≠ a := ne_of_none q na
            have q3 := st3.keep b o (by rw [upd_ne hba]; exact q) (noOw b) nt
            rw [upd_ne, del_ne hba]
            · exact q3
            · intro z
              rw [z] at q3 hba
              rw [del_ne hba, q3] at hp
              cases hp
          have freH : Fre H' p := fun o q => by
            cases o with
            | tbl ps => exact ⟨ps, rfl⟩
            | _ =>
              have z := keep p _ q fun ps z => by cases z
              rw [upd_same] at z
              first
                | (exfalso
                   have hpa : p ≠ a := ne_of_none q na
                   have q3 := st3.keep p _ (by rw [upd_ne hpa]; exact q) (noOw p) fun ps z => by cases z
                   rw [del_ne hpa, q3] at hp
                   cases hp)
          have nFp : F' p = none := sm.sub.fre sm.ntb freH
          have rep : Rep M (upd F' p (.tup [v, v2])) (.ref p) (.tup [.str t, df]) := by
            refine .tup (.inl (.inl upd_same)) (.cons (r1.up (same_upd nFp)) (.cons ?_ .nil))
            cases df <;> first
              | (cases hfl; done)
              | (cases r3; constructor)
          refine h (upd F' p (.tup [v, v2])) _ _ ⟨st.same.trans (same_upd nFp), fun b o q n nt => keep b o (st.keep b o q n nt) nt, fun b q => st.new b q, fun b o q => ?_, fun b q => st.dom b fun o q2 => ?_, st.io, st.noio⟩
            ⟨⟨⟨fun b o q nb => ?_, fun b n vs q => ?_⟩, sm.ntb.upd fun ps z => by cases z⟩, ?_, sm.len, fun i d' q => ?_, fun i io ds q => ?_, sm.inj⟩ rep
          · by_cases hb : b = p
            · rw [hb]
              exact .inr (.inr (st.dom p freH))
            · rw [upd_ne hb] at q
              exact st.newF b o q
          · cases o with
            | tbl ps => exact ⟨ps, rfl⟩
            | _ => exact (q.no (keep b _ q2 fun ps z => by cases z) fun ps z => by cases z).elim
          · by_cases hb : b = p
            · subst hb
              rw [upd_same] at q ⊢
              exact q
            · rw [upd_ne hb] at q
              exact keep b o (sm.sub.go b o q nb) fun ps z => sm.ntb b ps (by rw [q, z])
          · by_cases hb : b = p
            · subst hb
              rw [upd_same] at q
              cases q
            · rw [upd_ne hb] at q
              exact keep b _ (sm.sub.bk b n vs q) fun ps z => by cases z
          · refine tabs_del sm3.tabs ea fun b o hb q => ?_
            rw [upd_ne, del_ne hb]
            · exact q
            · intro z
              rw [z] at q hb
              rw [del_ne hb, q] at hp
              cases hp
          · obtain ⟨v', e3, r4⟩ := sm.im i d' q
            exact ⟨v', e3, r4.up (same_upd nFp)⟩
          · obtain ⟨b, ws, e3, q1, q2, q4⟩ := sm.ow i io ds q
            refine ⟨b, ws, e3, keep b _ q1 q4.nt, ?_, q4.up (same_upd nFp)⟩
            rw [upd_ne]
            · exact q2
            · intro z
              rw [z] at q1
              exact freH.no q1 q4.nt
      · rw [if_neg hfl] at h
        exact h.elim
    · exact h.elim
  · rw [if_neg hok] at h
    exact h.elim
end
end DL

/- part -/
set_option Elab.async false
set_option linter.all false
set_option maxRecDepth 100000
set_option maxHeartbeats 1000000
namespace DL
open PySem PySem.Spec PyProof.Rows L2
section
variable {P : Program} {w : World} {base : Heap} {N : List Str} {sc : Scope} {j : Nat}
variable {M : Mx} {W : WX} {X : Cx} {F H F' H' F1 H1 F2 H2 H0 : Hp} {σ σ1 : L2.St} {ρ ρ1 ρ2 : SE}
theorem q_out {mF : SE → R RV} {ok : Str → Bool} {cs : List Value} {mb : DM RV} (cau : ∀ c, ok c = true → PySem.W.exmAny M.K (.ref (M.ca c)) cs = some true) : ∀ σ H F ρ Q, Sim M F H σ ρ → Post M W σ ρ F H (dOut mF ok mb ρ) Q →
    LamX.tLam M.T (TTout M.K (spD M 1 mF) cs) (fun E => canE M (fun cls d _ H' => E cls d H') mb) σ H Q := fun σ H F ρ Q sm h => by
  refine ⟨sm.tabs, fun H1 eN T1 => ?_⟩
  obtain ⟨st1, sm1⟩ := grow sm eN T1
  refine ⟨F, ρ, sm1, ?_⟩
  unfold dOut at h
  cases e : mb ρ with
  | bad =>
    rw [e] at h
    exact h
  | ex x ρ1 =>
    rw [e] at h
    exact fun F' H' cls d st sm' x => tell_ok cau (st1.trans st) sm' x h
  | ok r ρ1 =>
    rw [e] at h
    intro F' H' v st sm' ok'
    have h : Post M W σ ρ F H ((fz r ρ1).bind fun d ρ2 => .ok (.im (.tup [.str "", d])) ρ2) Q := h
    cases e2 : fz r ρ1 with
    | bad =>
      rw [e2] at h
      exact h.elim
    | ex x ρ' => exact (fz_ex e2).elim
    | ok d ρ2 =>
      rw [e2] at h
      have st' := st1.trans st
      obtain ⟨F2, st2, sm2, r2, _⟩ := fz_ok (st1.trans st) (ok'.from st1.dom) sm' e2
      refine ⟨by show 2 ≤ sizeLine; decide, fun p hp => ?_⟩
      have al := Alc.newF' (o := HO.tup [V.str "", v]) sm2.sub hp
      exact h _ _ _ (st2.trans (al.stp _ _)) (sm2.alc al) (Rep.tup (.inl (.inl upd_same)) (.cons (.str "") (.cons (r2.up al.same) .nil)))
theorem de_out {st stF : Stmt} {ok : Str → Bool} {mF : SE → R RV} {c Pt : Addr} {k : Nat} {mb : DM RV} {params : Arguments} {body : Expr} {scope : Scope} {p lpos pos : Pos} {p1 p2 p3 p4 p5 p6 p7 p8 p9 p10 p11 p12 p13 p14 p15 p16 p17 p18 : Pos} {jj k1 k2 k3 : Nat}
    (C : CxL P w base M N sc j X W c Pt) (O : OutAt M st stF ok mF) (S : OutSc (defScope st)) (g : GlOk sc "_law_outcome") (hj : k + 2 ≤ j) (L : LamX.LamS sc scope)
    (hb : ∀ (Xl : Cx) (E : XK), CxD P w base M N scope k Xl (fun cls d _ H => E cls d H) → DE Xl M (fun cls d _ H => E cls d H) body mb)
    (hbody : defBody st = [.Try [.Return (some (.Tuple [.Constant (.str "") jj p1, .Call (.Name "_law_ask" p2) [] [] p3] k1 p4)) p5]
      [.ExceptHandler (some (.Tuple [.Name "EarlyError" p6, .Name "UndefinedName" p7, .Name "EmptyHistory" p8] k2 p9)) (some "_law_e") [.Return (some (.Tuple [.Attribute (.Name "_law_e" p10) "tag" p11, .Call (.Name "_law_field" p12) [.Name "_law_e" p13] [] p14] k3 p15)) p16] p17] [] [] p18] := by rfl)
    (hdef : defaultsOf params X.env = ([], []) := by rfl)
    (hbind : ∀ (q : Str) (cl : List (Str × Addr)) (pm cv ctv : Value), bindArgs (PySem.W.kla_fn "<lambda>" q params body scope cl pm cv ctv) ⟨[], []⟩ = pure [] := by intros; rfl) :
    DE X M W (.Call (.Name "_law_outcome" p) [.Lambda params body scope lpos] [] pos) (dOut mF ok mb) := by
  obtain ⟨dO, dF, e1, e2, e3, m1, m2, m3, cau, fq⟩ := O
  obtain ⟨fO, fdO, gO, kO, bO, uO⟩ := dO
  obtain ⟨fF, fdF, gF, kF, bF, uF⟩ := dF
  have CD := C.toCxF.toCxD
  have fq := fq X.prog X.w X.base
  have hP := CD.hP
  have hw := CD.hw
  have hB := CD.hB
  subst hP hw hB
  have hK := CD.hK
  have hM := CD.hM
  have hN := CD.hN
  have hs := CD.hs
  have Q := q_out (W := W) (mb := mb) (mF := mF) cau
  rw [hK] at kO bO uO kF bF uF fq Q
  rw [hM] at gO gF m1 m2 m3 fq
  obtain ⟨oc, od, kV, doc, pm, an, cdv, ct, osl, efd, lk, hcd⟩ := uO.ex
  subst efd
  have hr2 : Room (k + 2) X.A := CD.hr.mono hj
  refine ⟨_, LamX.pe_lamcall (Ng := ["_law_ask", "_law_e"]) (a := "_law_ask") (k := k) (T := M.T) (CD.glo g) gO kO lk hcd bO S.Sg rfl S.va ?_ C.tb C.code C.mT C.uT hr2 (by rw [hs]; exact L) hdef hbind (t := fun E => canE M (fun cls d _ H' => E cls d H') mb) (fun A outer s H E f c' hr3 => DE.can (hb _ E ?_)) g.nd (by decide) (by decide), Q⟩
  · rw [hbody]
    exact out_gives rfl S.Sg.nd S.Sg.kind S.va S.le (by decide) (by decide) S.g1 S.g2 S.g3 S.g4 (by decide) (by decide) (by decide) (by decide) m1 m2 m3 gF fq kF bF (hr2.mono (by omega))
  · exact ⟨rfl, rfl, rfl, hK, hM, hN, rfl, L.kind, CD.nd, rfl, hr3, takes_of rfl rfl rfl rfl⟩
end
end DL

/- part -/
set_option Elab.async false
set_option linter.all false
set_option maxRecDepth 100000
set_option maxHeartbeats 1000000
namespace DL
open PySem PySem.Spec PyProof.Rows L2
/-! ### defs with defaults, defs with lambdas, the end -/
structure DefAtD (M : Mx) (x : Str) (st : Stmt) (ps : List Str) (dvs : List V) where
  f : Addr
  fd : FuncData
  g : M.mg x = some (.ref f)
  kp : PySem.W.keepIn M.K (.ref f) = true
  b : Binds M.K fd ps []
  bd : ∃ dus, Vals dvs dus ∧ Binds M.K fd ps dus
  fu : FunD M.K x x (defArgs st) (defBody st) (defScope st) dvs [] f fd
def DefAtD.cal {M : Mx} {P : Program} {w : World} {base : Heap} {j : Nat} {x : Str} {st : Stmt} {ps : List Str} {dvs : List V} {n : Nat} {mm : SE → R RV} (d : DefAtD M x st ps dvs) (ok : FnOk P w M.K M.mg base (L2.CX P w) j d.f d.fd ps (spD M n mm)) : Cal P w base M x j n mm := ⟨d.f, d.fd, ps, d.g, d.kp, d.b, ok⟩
theorem fn_DD {M : Mx} {P : Program} {w : World} {base : Heap} {x qual : Str} {st : Stmt} {f : Addr} {fd : FuncData} {N ps : List Str} {k : Nat} {mb : DM Fl} {dvs : List V} (Fu : FunD M.K x qual (defArgs st) (defBody st) (defScope st) dvs [] f fd) (S : FnScope N ps (defScope st))
    (hb : ∀ (cdv : Value) (A : Around) (outer : List Env) (s : Shared) (H : Hp) (E : XK), Room k (A.deeper (envOfC qual (defScope st) s.heap.objs.size f cdv)) →
      DSs (cxOf (L2.CX P w) P w M.K M.mg base N qual (defScope st) f cdv A outer s H E) M (fun cls d _ H' => E cls d H') (defBody st) mb) :
    FnOk P w M.K M.mg base (L2.CX P w) (k + 1) f fd ps (spD M ps.length (mFn N.length mb)) := by
  have hN : ps.length ≤ N.length := by
    have := congrArg List.length S.pre
    rw [List.length_take] at this
    omega
  exact Fu.ok S (fun vs H Q E h => by
    obtain ⟨F, svs, h1, _⟩ := h
    exact h1) fun cdv A outer s H vs Q E hr h => fn_body hN (hb cdv A outer s H E hr) h
/-- f(e, ..), the last parameters by their defaults -/
theorem de_callCD {P : Program} {w : World} {base : Heap} {N : List Str} {sc : Scope} {j : Nat} {M : Mx} {W : WX} {X : Cx} {x : Str} {p pos : Pos} {a : Expr} {es : List Expr} {ms : DM (List AV)} {k n : Nat} {mm : SE → R RV} {dvs : List V} {dds : List D}
    (C : CxD P w base M N sc j X W) (Ca : Cal P w base M x k n mm) (bd : ∃ dus, Vals dvs dus ∧ Binds M.K Ca.fd Ca.ps dus) (hds : ∀ F, Reps M F dvs dds) (g : GlOk sc x) (hk : k ≤ j) (ha : DA X M W (a :: es) ms)
    (he : starEach (a :: es) X.env = (false, eval a X.env) :: starEach es X.env := by rfl) (hpl : (backTo pos (starEach es X.env)).any (·.1) = false := by rfl) :
    DE X M W (.Call (.Name x p) (a :: es) [] pos) (dCall n dds mm ms) := by
  obtain ⟨f, fd, ps, g', kp, b, ok⟩ := Ca
  obtain ⟨dus, hd, hb⟩ := bd
  have hP := C.hP
  have hw := C.hw
  have hB := C.hB
  subst hP hw hB
  rw [C.hK, C.hM] at ok
  rw [C.hK] at kp b hb
  rw [C.hM] at g'
  exact de_callD ok (C.hr.mono hk) g' kp hb hd hds C.tk ha (C.glo g) g.nd he hpl
def lamQ (x : Str) : Str := x ++ ".<locals>." ++ "<lambda>"
/-- a def with lambdas of its own -/
structure DefAtL (M : Mx) (x : Str) (st : Stmt) (ps : List Str) (c Pt : Addr) where
  d : DefAt M x st ps
  lk : ∃ (oc : Value) (od : Option Addr) (kV doc pm : Value) (an : Option Addr) (ct : Value) (osl : Array (Option Value)), d.fd = PySem.W.fnOf x x (defArgs st) (defBody st) (defScope st) .none kV doc pm an (.ref c) ct ∧ M.K.lookup d.f = some ⟨oc, od, .func d.fd, osl⟩ ∧ PySem.W.codeIn M.K (.ref c) x = true
  mT : (Pt, lamQ x) ∈ M.T
  uT : ∀ p ∈ M.T, p.1 = Pt → p.2 = lamQ x
theorem fn_DL {M : Mx} {P : Program} {w : World} {base : Heap} {x : Str} {st : Stmt} {N ps : List Str} {k : Nat} {mb : DM Fl} {c Pt : Addr} (Dx : DefAtL M x st ps c Pt) (S : FnScope N ps (defScope st))
    (hb : ∀ (A : Around) (outer : List Env) (s : Shared) (H : Hp) (E : XK), Room k (A.deeper (envOfC x (defScope st) s.heap.objs.size Dx.d.f (.ref c))) →
      DSs (cxOf (L2.CX P w) P w M.K M.mg base N x (defScope st) Dx.d.f (.ref c) A outer s H E) M (fun cls d _ H' => E cls d H') (defBody st) mb) :
    FnOk P w M.K M.mg base (L2.CX P w) (k + 1) Dx.d.f Dx.d.fd ps (spD M ps.length (mFn N.length mb)) := by
  have hN : ps.length ≤ N.length := by
    have := congrArg List.length S.pre
    rw [List.length_take] at this
    omega
  obtain ⟨oc, od, kV, doc, pm, an, ct, osl, efd, lk, hcd⟩ := Dx.lk
  rw [efd] at lk ⊢
  exact fn_of lk hcd S (fun vs H Q E h => by
    obtain ⟨F, svs, h1, _⟩ := h
    exact h1) fun A outer s H vs Q E hr h => fn_body hN (hb A outer s H E hr) h
theorem cxL_of {P : Program} {w : World} {base : Heap} {M : Mx} {N ps : List Str} {x : Str} {st : Stmt} {k : Nat} {c Pt : Addr} {A : Around} {outer : List Env} {s : Shared} {H : Hp} {E : XK} (Dx : DefAtL M x st ps c Pt) (S : FnScope N ps (defScope st)) (tb : LamX.TabB base M.mg c Pt) (hr : Room k (A.deeper (envOfC x (defScope st) s.heap.objs.size Dx.d.f (.ref c)))) :
    CxL P w base M N (defScope st) k (cxOf (L2.CX P w) P w M.K M.mg base N x (defScope st) Dx.d.f (.ref c) A outer s H E) (fun cls d _ H' => E cls d H') c Pt :=
  ⟨cxF_of S hr, rfl, tb, Dx.mT, Dx.uT⟩
theorem lawAt {l : PySem.W.OpenLaw} {w : World} {K : PySem.W.Frag} {mg : Str → Option Value} {fa c Pt : Addr} {h : Heap} {fd : FuncData} {k : Nat} (hT : h.get? Pt = some { cls := .none, data := .fields #[] }) (nT : K.lookup Pt = none) (C : PySem.W.CodeHd h c Pt)
    (hb : ∀ (s : Shared) (u : Value), BindsTo s fd ⟨[u], []⟩ [("_law_script", u)]) (F : ∀ base : Heap, K.In base → base.Ns mainGlobals mg → LamX.TabB base mg c Pt → FnOk l.prog w K mg base (L2.CX l.prog w) k fa fd ["_law_script"] (spLawC K [(Pt, lamQ "law")])) :
    LamX.LawAtS l w K (L2.CX l.prog w) k 63 "_law_script" mg fa h := by
  refine ⟨fd, [(c, Pt)], spLawC K [(Pt, lamQ "law")], fun p hp => ?_, fun p hp => ?_, fun p hp => ?_, hb, fun H a ns hl _ hH hS => ⟨⟨a, ns, rfl, hS, hl, fun _ => rfl⟩, fun p hp => ?_⟩, fun base h1 h2 h3 => F base h1 h2 (h3 _ List.mem_cons_self)⟩
  · rw [List.mem_singleton.mp hp]
    exact hT
  · rw [List.mem_singleton.mp hp]
    exact nT
  · rw [List.mem_singleton.mp hp]
    exact C
  · rw [List.mem_singleton.mp hp]
    exact hH _ List.mem_cons_self
theorem walkL {l : PySem.W.OpenLaw} {q : Program} {loose : List Str} {XP : (Str → Option Value) → Heap → Prop} {YP : World → Heap → Prop} {d : DefRec} {K : Params → PySem.W.Frag} {k : Nat} (hr : Room k callerA) (hn : l.most = some 63) (hdf : d.params.defaults = []) (hrec : ((recsOf q).any fun e => e.name == d.name) = true)
    (hY : ∀ (w : World) (h : Heap), YP w h → (K w.params).In h)
    (F : ∀ (w : World) (mg : Str → Option Value) (fa : Addr) (h : Heap), (K w.params).In h → h.Ns mainGlobals mg → mg d.name = some (.ref fa) → LamX.OwnTab (K w.params) fa h → LamX.LawAtS l w (K w.params) (L2.CX l.prog w) k 63 "_law_script" mg fa h) :
    PySem.W.WalkO q loose XP YP l.row.toRowW d [] (fun f vs => PySem.call f vs) :=
  LamX.walk_ofOwn (n := 63) (k := k) (x := "_law_script") (CX := fun w => L2.CX l.prog w) hn (by decide) hdf hr hrec hY (fun w mg fa h _ KX G hm own => F w mg fa h KX G hm own) fun _ _ _ _ _ ⟨_, _, _, _, _, _, _, _, _, _, _, _, z⟩ => z
end DL

/- part -/
set_option Elab.async false
set_option linter.all false
set_option maxRecDepth 100000
set_option maxHeartbeats 1000000
namespace DL
open PySem PySem.Spec PyProof.Rows L2
/-! ### f-strings -/
def fmtD : D → Option RV
  | .str y => if y.length ≤ 1000000 then some (.im (.str y)) else none
  | .int i => if i.natAbs.log2 < 1920 then some (.im (.str (PySem.Str.ofString (toString i)))) else none
  | _ => none
def jGo : List (DM RV) → Str → DM RV
  | [], acc, ρ => .ok (.im (.str acc)) ρ
  | m :: ms, acc, ρ => (m ρ).bind fun r ρ1 => match r with
    | .im (.str y) => if (acc ++ y).length ≤ 1000000 then jGo ms (acc ++ y) ρ1 else .bad
    | _ => .bad
section
variable {M : Mx} {W : WX} {X : Cx} {e : Expr} {es : List Expr} {m : DM RV} {ms : List (DM RV)} {pos : Pos}
def DJ (X : Cx) (M : Mx) (W : WX) (es : List Expr) (ms : List (DM RV)) : Prop := ∃ ts, PJ X es ts ∧ ∀ acc σ H F ρ Q, Sim M F H σ ρ → Post M W σ ρ F H (jGo ms acc ρ) Q → tJs ts acc σ H fun out H1 => Q (.str out) H1
theorem de_fmt (he : DE X M W e m) : DE X M W (.FormattedValue e (-1) none pos) (dOp1 fmtD m) := by
  obtain ⟨t, p, q⟩ := he
  refine ⟨_, pe_fmt p, fun σ H F ρ Q sm h => ?_⟩
  refine q σ H F ρ _ sm (Post.go h fun x ρ1 F1 H1 v _ st1 sm1 ok1 h1 => ?_)
  obtain ⟨rv, e1, k⟩ := Post.fin' h1 st1 sm1
  obtain ⟨d, l1, hg⟩ := bind_some1 e1
  have vw := ok1.view0 sm1 l1
  unfold fmtD at hg
  split at hg
  · obtain ⟨hc, e⟩ := some_ite hg
    subst e
    rw [vw_str vw]
    exact .inl ⟨_, rfl, szle hc, k _ _ _ (Alc.refl sm1.sub) RvNew.str⟩
  · obtain ⟨hc, e⟩ := some_ite hg
    subst e
    rw [vw_int vw]
    exact .inr ⟨_, rfl, hc, k _ _ _ (Alc.refl sm1.sub) RvNew.str⟩
  · cases hg
theorem dj_nil : DJ X M W [] [] := ⟨[], .nil, fun acc σ H F ρ Q sm h => h F H _ (Stp.refl _ _ _ _) sm (Rep.str acc)⟩
theorem dj_cons (he : DE X M W e m) (hr : DJ X M W es ms) : DJ X M W (e :: es) (m :: ms) := by
  obtain ⟨t, p, q⟩ := he
  obtain ⟨ts, ps, qs⟩ := hr
  refine ⟨_, .cons p ps, fun acc σ H F ρ Q sm h => ?_⟩
  refine q σ H F ρ _ sm (Post.go (g := fun r ρ1 => match r with
    | .im (.str y) => if (acc ++ y).length ≤ 1000000 then jGo ms (acc ++ y) ρ1 else .bad
    | _ => .bad) h fun x ρ1 F1 H1 v _ st1 sm1 ok1 h1 => ?_)
  split at h1
  · rename_i y _
    have ev : v = .str y := vw_str (ok1.view0 sm1 (d := .str y) rfl)
    by_cases hc : (acc ++ y).length ≤ 1000000
    · rw [if_pos hc] at h1
      exact ⟨y, ev, szle hc, qs _ _ _ _ _ _ sm1 (Post.from st1 h1)⟩
    · rw [if_neg hc] at h1
      exact h1.elim
  · exact h1.elim
theorem de_joined {v1 v2 : Expr} {rest : List Expr} (h : DJ X M W (v1 :: v2 :: rest) ms) : DE X M W (.JoinedStr (v1 :: v2 :: rest) pos) (jGo ms Str.empty) := by
  obtain ⟨ts, p, q⟩ := h
  exact ⟨_, pe_joined p, fun σ H F ρ Q sm h => q _ _ _ _ _ _ sm h⟩
theorem de_joined1 (h : DE X M W e m) : DE X M W (.JoinedStr [e] pos) m := by
  obtain ⟨t, p, q⟩ := h
  exact ⟨t, pe_joined1 p, q⟩
end
end DL

/- part -/
set_option Elab.async false
set_option linter.all false
set_option maxRecDepth 100000
set_option maxHeartbeats 1000000
namespace DL
open PySem PySem.Spec PyProof.Rows L2
def excAt {M : Mx} {c : Str} {ps : List Str} {mk : List V → List (Str × V)} (C : Addr) (hC : M.ca c = C) (fI : Addr) (fd : FuncData) (g : M.mg c = some (.ref C)) (oex : OexC M.K C) (iC : PySem.W.findIn M.K (.ref C) "__init__" = some (some (.ref fI))) (tI : PySem.W.typeIn M.K (.ref fI) = some (.type "function"))
    (tag : PySem.W.findIn M.K (.ref C) "tag" = some none) (fs : ∀ ws, ∀ f ∈ (mk ws).map (·.1), PySem.W.findIn M.K (.ref C) f = some none) (xf : XfC M.K C) (b : Binds M.K fd ps []) (ok : ∀ (P : Program) (w : World) (base : Heap), FnOk P w M.K M.mg base (L2.CX P w) 1 fI fd ps (spI M.K (ps.length - 1) mk)) : ExcAt M c ps mk := by
  subst hC
  exact ⟨fI, fd, g, oex, iC, tI, tag, fs, xf, b, ok⟩
end DL

/- part -/
set_option Elab.async false
set_option linter.all false
set_option maxRecDepth 100000
set_option maxHeartbeats 1000000
namespace DL
open PySem PySem.Spec PyProof.Rows L2
/-- two stores, the first one to a captured name: no swap -/
theorem swappedC {a b : Expr} {env : Env} {x y : Str} {px py pt pt2 : Pos} {kt k2} (hx : env.scope.names.lookup x = some .cell) :
    swappedStores [.Tuple [.Name x px, .Name y py] kt pt] (.Tuple [a, b] k2 pt2) env = pure none := by
  have kx : (env.kindOf x == some .local) = false := by
    have : env.kindOf x = some .cell := hx
    rw [this]
    rfl
  unfold swappedStores
  by_cases h1 : (!([Expr.Name x px, Expr.Name y py].length == 2 || [Expr.Name x px, Expr.Name y py].length == 3) || [a, b].length != [Expr.Name x px, Expr.Name y py].length || env.blockKind != .function) = true
  · simp only [pure_bind]
    rw [if_pos h1]
  · simp only [pure_bind]
    rw [if_neg h1]
    by_cases hy : (env.kindOf y = some .local ∧ py.line = px.line)
    · simp [kx, hy, Expr.pos, List.filterMap_cons]
      all_goals first
        | done
        | (split <;> rfl)
        | (split <;> simp_all)
    · have hy2 : (env.kindOf y == some .local && py.line == px.line) = false := by
        cases q : (env.kindOf y == some .local && py.line == px.line) with
        | false => rfl
        | true => exact (hy (by simpa using q)).elim
      simp only [List.filterMap_cons, List.filterMap_nil, Expr.pos, List.head?_cons, Option.map_some, Option.getD_some]
      simp [kx, hy, hy2]
/-- whether an exception of the class cls is one of S's -/
theorem exmOne_of {K : PySem.W.Frag} {cls : Value} {S : Addr} {b : Bool} (h1 : PySem.W.subIn K (.ref S) (.type "BaseException") = some true) (h2 : PySem.W.isClsIn K S = true) (h3 : PySem.W.typeIn K (.ref S) = some (.type "type")) (h4 : PySem.W.subIn K cls (.ref S) = some b) : PySem.W.exmOne K cls (.ref S) = some b := by
  have q2 : (PySem.W.clsIn K S).isSome = true := h2
  unfold PySem.W.exmOne
  rw [h1, if_pos (by rfl)]
  show (if ((PySem.W.clsIn K S).isSome && PySem.W.typeIn K (.ref S) == some (.type "type")) = true then PySem.W.subIn K cls (.ref S) else none) = some b
  rw [q2, h3, if_pos (by rfl), h4]
theorem exm3 {K : PySem.W.Frag} {cls c1 c2 c3 : Value} {b1 b2 b3 : Bool} (h1 : PySem.W.exmOne K cls c1 = some b1) (h2 : PySem.W.exmOne K cls c2 = some b2) (h3 : PySem.W.exmOne K cls c3 = some b3) (h : (b1 || (b2 || b3)) = true) : PySem.W.exmAny K cls [c1, c2, c3] = some true := by
  have e3 : PySem.W.exmAny K cls [c3] = some b3 := by
    unfold PySem.W.exmAny
    rw [h3]
    show some (b3 || false) = _
    rw [Bool.or_false]
  have e2 : PySem.W.exmAny K cls [c2, c3] = some (b2 || b3) := by
    unfold PySem.W.exmAny
    rw [h2, e3]
  unfold PySem.W.exmAny
  rw [h1, e2]
  show some (b1 || (b2 || b3)) = _
  rw [h]
end DL

/- part -/
set_option Elab.async false
set_option linter.all false
set_option maxRecDepth 100000
namespace DL
open PySem PySem.Spec PyProof.Rows L2
variable {X : Cx}
/-- the first of a tuple and a list of the rest -/
theorem star_unp {pins : List (Addr × Obj)} {σ : L2.St} {H : Hp} {s : Shared} {l : Addr} {x : V} {xs : List V} {E : Value → Shared → Prop} {Q : List Value → Shared → Prop}
    (hc : X.calm = true) (I : Inv X pins σ H s) (hs : SqT X.K H l (x :: xs))
    (h : ∀ a0 p s1, H p = none → RelV x a0 → Inv X pins σ (upd H p (.lst xs)) s1 → Q [a0, .ref p] s1) :
    wpAny (model X.prog X.w) X.A (unpackItems (.ref l) 2 (some 1)) Q E s := by
  obtain ⟨its, rv, pl, hz⟩ := I.tuple hs
  have sz : its.length = xs.length + 1 := by rw [← rv.length]; rfl
  have fresh : l ≠ s.heap.objs.size := by
    obtain ⟨o, ho, _⟩ := pl
    exact Nat.ne_of_lt (Heap.lt_size ho)
  unfold unpackItems
  refine wpAny_bind ?_
  unfold notIterableAtAll
  refine wpAny_bind (wpAny_specialOf pl.typeIs slot_tuple_iter.lookup (wpAny_pure ?_))
  simp only [Bool.false_eq_true, if_false]
  refine wpAny_bind (wpAny_holding (iter_tuple pl ?_))
  refine wpAny_bind (wpAny_holding (draw_tuple fresh 1 0 _ _ ⟨_, Heap.get?_push_size _ rfl, rfl, rfl⟩ (pl.push _) (by rw [List.size_toArray]; omega) fun g1 i1 b1 => ?_))
  have old : ∀ b o, s.heap.get? b = some o → g1.get? b = some o := fun b o e => b1.extBut b o (Nat.ne_of_lt (Heap.lt_size e)) (Heap.get?_push_of_some _ e)
  rw [Nat.zero_add] at i1
  have i2 := i1
  obtain ⟨oi, hoi, _⟩ := i2
  have pl1 : IsTup g1 l its.toArray := (pl.push _).extBut b1.extBut fresh
  have pl2 := pl1
  obtain ⟨ol, hol, _⟩ := pl2
  cases rv with
  | @cons _ a0 _ rest r0 rr =>
  rw [List.drop_zero]
  refine wpAny_bind (wpAny_holding (PySem.W.kun_collect (s := { s with heap := g1 }) (T := "tuple_iterator") (.inr (.inr (.inr rfl))) (Walks.tuple (A := X.A.in1) (I.ok.hd hc) s.heap.objs.size l fresh _) (fun j u st => st.1.typeIs) (k := 1) (by simp) ⟨i1, pl1⟩ (Heap.lt_size hoi) (Heap.lt_size hol) (fun g2 tk keep => ?_) (by simpa [sz] using hz)))
  have old2 : ∀ b o, s.heap.get? b = some o → g2.get? b = some o := fun b o e => keep b o (Nat.ne_of_lt (Heap.lt_size e)) (old b o e)
  have I1 : Inv X pins σ H { s with heap := g2, toks := tk } := I.kept old2
  have len0 : (List.drop 1 (a0 :: rest).toArray.toList).length - (2 - 1 - 1) = rest.length := by simp
  show wpAny _ _ (newList (List.take _ _) >>= fun d => pure (_ ++ [d] ++ List.drop _ _)) _ _ _
  rw [len0]
  simp only [List.drop_succ_cons, List.drop_zero, List.take_length, List.drop_length, List.append_nil]
  refine wpAny_bind (wpAny_newList (wpAny_pure ?_) ?_)
  · have I2 := I1.laid (t' := tk) (o := .lst xs) (h' := g2.push { cls := .type "list", data := .seq rest.toArray }) (fun b u e => Heap.get?_push_of_some _ e) (Nat.le_refl _) ⟨by simp only [List.length_cons] at hz; omega, rest, 0, rr, Heap.get?_push_size _ rfl⟩
    exact h a0 _ _ (I1.hok.fresh (Nat.le_refl _)) r0 I2
  · have e := rr.length
    simp only [List.length_cons] at hz
    omega
/-- a, *b = a tuple -/
def gStar (K : PySem.W.Frag) (t : TGs) : TG := fun v σ H Q => ∃ l x xs, v = .ref l ∧ SqT K H l (x :: xs) ∧ ∀ p, H p = none → t [x, .ref p] σ (upd H p (.lst xs)) Q
theorem pg_star {es : List Expr} {k : Nat} {pos : Pos} {t : TGs} (hc : X.calm = true) (h : PGs X es t)
    (hn : (assignEach es X.env).length = 2 := by rfl) (hst : (assignEach es X.env).findIdx? (·.1) = some 1 := by rfl) : PG X (.Tuple es k pos) (gStar X.K t) := by
  refine ⟨fun pins s σ H v u Q I r ⟨l, x, xs, e, sq, kk⟩ => ?_⟩
  subst e
  obtain rfl : u = Value.ref l := r
  rw [assign_Tuple]
  refine wpAny_bind (wpAny_standAt ?_)
  unfold unpack
  rw [hn, hst]
  exact wpAny_bind (wpAny_holding (star_unp hc I sq fun a0 p s1 hp r0 I1 => h.run pins s1 σ _ [x, .ref p] _ Q I1 (.cons r0 (.cons (show RelV (.ref p) (.ref p) from rfl) .nil)) (kk p hp)))

/-- *b as the last target -/
theorem pgs_star {tg : Expr} {q : Pos} {t : TG} (h : PG X tg t) : PGs X [.Starred tg q] (fun vs σ H Q => ∃ v, vs = [v] ∧ t v σ H Q) := by
  refine ⟨fun pins s σ H vs us Q I r ⟨v, e, kk⟩ => ?_⟩
  subst e
  cases r with
  | @cons _ u _ _ r0 rr =>
  cases rr
  show wpAny _ _ (assignInOrder [assign tg X.env] [u]) _ _ _
  exact assignInOrder_cons (thn (h.run pins s σ H v u _ I r0 kk) fun _ s1 ⟨σ1, H1, I1, q1⟩ => wpAny_pure ⟨σ1, H1, I1, q1⟩)
/-- a, *b = e, the list of the rest frozen -/
def sStar (i j : Nat) (m : DM RV) : DM Fl := fun ρ => (dFz m ρ).bind fun d ρ1 => match d with
  | .tup (d1 :: ds) => (stow ρ1 i (.im d1)).bind fun _ ρ2 => (stow ρ2 j (.im (.lst ds))).bind fun _ ρ3 => .ok .nx ρ3
  | _ => .bad
theorem ds_star {M : Mx} {W} {e : Expr} {m : DM RV} {i j : Nat} {x y : Str} {px py pz pt pos : Pos} {kt} (he : DE X M W e m) (hc : X.calm = true) (hK : M.K = X.K) (g1 : PG X (.Name x px) (gName i)) (g2 : PG X (.Name y py) (gName j))
    (hn : (assignEach [.Name x px, .Starred (.Name y py) pz] X.env).length = 2 := by rfl) (hst : (assignEach [.Name x px, .Starred (.Name y py) pz] X.env).findIdx? (·.1) = some 1 := by rfl)
    (hs : swapsWithSole [.Tuple [.Name x px, .Starred (.Name y py) pz] kt pt] e pos.line X.env = pure false := by rfl) (hw : swappedStores [.Tuple [.Name x px, .Starred (.Name y py) pz] kt pt] e X.env = pure none := by rfl)
    (h1 : (assignEach [.Tuple [.Name x px, .Starred (.Name y py) pz] kt pt] X.env).map (·.2) = [assign (.Tuple [.Name x px, .Starred (.Name y py) pz] kt pt) X.env] := by rfl) :
    DS X M W (.Assign [.Tuple [.Name x px, .Starred (.Name y py) pz] kt pt] e pos) (sStar i j m) := by
  obtain ⟨t, p, q⟩ := he
  refine ⟨_, ps_asg p (pg_star hc (pgs_cons g1 (pgs_star g2)) hn hst) hs hw h1, fun σ H F ρ E sm h => ?_⟩
  refine q σ H F ρ _ sm (PostD.go (PostD.step (P := fun r => PostS M W σ ρ F H r E) (fun z => z) (fun e ρ' z F' H' cls d st sm ok => z F' H' σ cls d st sm ok) h fun d ρ1 F1 H1 v st1 sm1 r1 h2 => ?_))
  cases r1 with
  | @tup a vs ds0 sq rs =>
    cases rs with
    | nil => exact h2.elim
    | @cons x1 xs d1 ds rx rxs =>
    have h2 : PostS M W σ ρ F H ((stow ρ1 i (.im d1)).bind fun _ ρ2 => (stow ρ2 j (.im (.lst ds))).bind fun _ ρ3 => .ok .nx ρ3) E := h2
    cases e2 : stow ρ1 i (.im d1) with
    | bad =>
      rw [e2] at h2
      exact h2.elim
    | ex z ρ2 => exact (stow_ex e2).elim
    | ok u ρ2 =>
    rw [e2] at h2
    have h2 : PostS M W σ ρ F H ((stow ρ2 j (.im (.lst ds))).bind fun _ ρ3 => .ok .nx ρ3) E := h2
    cases e3 : stow ρ2 j (.im (.lst ds)) with
    | bad =>
      rw [e3] at h2
      exact h2.elim
    | ex z ρ2 => exact (stow_ex e3).elim
    | ok u ρ3 =>
    rw [e3] at h2
    refine ⟨a, x1, xs, rfl, by rw [← hK]; exact sm1.sub.sqT sq, fun p hp => ?_⟩
    have al : Alc F1 H1 (upd F1 p (.lst xs)) (upd H1 p (.lst xs)) := Alc.newF' sm1.sub hp
    have sm2 := sm1.alc al
    have st2 := st1.trans (al.stp σ ρ1)
    obtain ⟨st3, sm3⟩ := stow_ok (sv := .im d1) st2 (Rep.mono al.same _ _ rx) sm2 e2
    have rl : Rep M (upd F1 p (.lst xs)) (.ref p) (.lst ds) := .lst (by simp [upd]) (Reps.mono al.same _ _ rxs)
    obtain ⟨st4, sm4⟩ := stow_ok (sv := .im (.lst ds)) st3 rl sm3 e3
    exact ⟨x1, _, rfl, .ref p, rfl, h2 _ _ _ st4 sm4⟩
  | _ => exact h2.elim
theorem ds_starv {P : Program} {w : World} {base : Heap} {M : Mx} {N : List Str} {sc : Scope} {k0 : Nat} {X : Cx} {W} (C : CxD P w base M N sc k0 X W) {e : Expr} {m : DM RV} (i j : Nat) {x y : Str} {px py pz pt pos : Pos} {kt} (hx : StOk X x) (hy : StOk X y) (he : DE X M W e m)
    (hi : N[i]? = some x := by rfl) (hj : N[j]? = some y := by rfl)
    (hn : (assignEach [.Name x px, .Starred (.Name y py) pz] X.env).length = 2 := by rfl) (hst : (assignEach [.Name x px, .Starred (.Name y py) pz] X.env).findIdx? (·.1) = some 1 := by rfl)
    (hs : swapsWithSole [.Tuple [.Name x px, .Starred (.Name y py) pz] kt pt] e pos.line X.env = pure false := by rfl) (hw : swappedStores [.Tuple [.Name x px, .Starred (.Name y py) pz] kt pt] e X.env = pure none := by rfl) :
    DS X M W (.Assign [.Tuple [.Name x px, .Starred (.Name y py) pz] kt pt] e pos) (sStar i j m) :=
  ds_star he C.cm C.hK (pg_name C.nd' (C.ix hi) hx.loc hx.fn) (pg_name C.nd' (C.ix hj) hy.loc hy.fn) hn hst hs hw
end DL

/- part -/
set_option Elab.async false
set_option linter.all false
set_option maxRecDepth 100000
set_option maxHeartbeats 1000000
namespace DL
open PySem PySem.Spec PyProof.Rows L2
/-! ### objects of own classes -/
/-- f := d in a list of fields -/
def putD (f : Str) (d : D) : List (Str × D) → List (Str × D)
  | [] => [(f, d)]
  | (g, x) :: r => if g = f then (g, d) :: r else (g, x) :: putD f d r
section
variable {M : Mx} {F H : Hp}
theorem repF_put {f : Str} {v : V} {d : D} (r : Rep M F v d) : ∀ {vs : List (Str × V)} {fs : List (Str × D)}, RepF M F vs fs → RepF M F (putF f v vs) (putD f d fs)
  | _, _, .nil => .cons r .nil
  | _, _, @RepF.cons _ _ g v0 vs d0 fs r0 t => by
    unfold putF putD
    by_cases e : g = f
    · rw [if_pos e, if_pos e]
      exact .cons r t
    · rw [if_neg e, if_neg e]
      exact .cons r0 (repF_put r t)
theorem repF_len : ∀ {vs : List (Str × V)} {fs : List (Str × D)}, RepF M F vs fs → vs.length = fs.length
  | _, _, .nil => rfl
  | _, _, .cons _ t => congrArg (· + 1) (repF_len t)
theorem repF_none {f : Str} : ∀ {vs : List (Str × V)} {fs : List (Str × D)}, RepF M F vs fs → fs.lookup f = none → vs.lookup f = none
  | _, _, .nil, _ => rfl
  | _, _, @RepF.cons _ _ g v0 vs d0 fs r0 t, h => by
    rw [List.lookup_cons] at h ⊢
    cases e : f == g with
    | true =>
      rw [e] at h
      cases h
    | false =>
      rw [e] at h
      exact repF_none t h
theorem putD_keys {f g : Str} {d : D} : ∀ {fs : List (Str × D)}, g ∈ (putD f d fs).map (·.1) → g = f ∨ g ∈ fs.map (·.1)
  | [], h => by
    have h : g ∈ [f] := h
    exact .inl (List.mem_singleton.mp h)
  | (k, x) :: r, h => by
    unfold putD at h
    by_cases e : k = f
    · rw [if_pos e] at h
      exact .inr h
    · rw [if_neg e] at h
      rcases List.mem_cons.mp h with h | h
      · exact .inr (List.mem_cons.mpr (.inl h))
      · rcases putD_keys h with h | h
        · exact .inl h
        · exact .inr (List.mem_cons_of_mem _ h)
theorem ObOk.put {K : PySem.W.Frag} {C : Addr} {f : Str} {d : D} {fs : List (Str × D)} (h : ObOk K C (fs.map (·.1))) (n : NoAttr K C f) : ObOk K C ((putD f d fs).map (·.1)) := ⟨h.1, fun g hg => by
  rcases putD_keys hg with e | e
  · rw [e]
    exact n
  · exact h.2 g e⟩
end
/-- what is known of a class: its objects' fields ns -/
structure ClsAt (M : Mx) (c : Str) (ns : List Str) : Prop where
  g : M.mg c = some (.ref (M.ca c))
  cl : Cls M.K (M.ca c)
  no : ∀ f ∈ ns, NoAttr M.K (M.ca c) f
/-- a def of a class that can be called -/
structure MCal (P : Program) (w : World) (base : Heap) (M : Mx) (c m : Str) (k n : Nat) (mm : SE → R RV) where
  f : Addr
  fd : FuncData
  ps : List Str
  cl : Cls M.K (M.ca c)
  me : Meth M.K (M.ca c) m f
  b : Binds M.K fd ps []
  ok : FnOk P w M.K M.mg base (L2.CX P w) k f fd ps (spD M n mm)
structure ICal (P : Program) (w : World) (base : Heap) (M : Mx) (c : Str) (k n : Nat) (mm : SE → R RV) where
  f : Addr
  fd : FuncData
  ps : List Str
  g : M.mg c = some (.ref (M.ca c))
  cl : Cls M.K (M.ca c)
  mkr : Mk M.K (M.ca c) f
  b : Binds M.K fd ps []
  ok : FnOk P w M.K M.mg base (L2.CX P w) k f fd ps (spD M n mm)
section
variable {P : Program} {w : World} {base : Heap} {N : List Str} {sc : Scope} {j : Nat}
variable {M : Mx} {W : WX} {X : Cx} {F H F' H' F1 H1 F2 H2 H0 : Hp} {σ σ1 : L2.St} {ρ ρ1 ρ2 : SE}
variable {a b c e o : Expr} {ma mb m mo : DM RV} {es : List Expr} {ms : DM (List AV)} {pos p p' apos : Pos} {x f mn : Str}
/-! .. a field is stored -/
def sFldD (i : Nat) (c f : Str) (m : DM RV) : DM Fl := fun ρ => (dFz m ρ).bind fun d ρ1 => match ρ1[i]? with
  | some (.ow io (.ob c' fs)) => if c' = c ∧ fs.length < 900 then .ok .nx (ρ1.set i (.ow io (.ob c' (putD f d fs)))) else .bad
  | _ => .bad
theorem ds_fld {i : Nat} {c : Str} {ns : List Str} (hN : X.N[i]? = some x) (hv : Vis X.env.scope x) (hd : (x == ("__debug__" : Str)) = false) (hcd : (x == ("__classdict__" : Str)) = false) (hK : M.K = X.K) (Cl : ClsAt M c ns) (hf : f ∈ ns) (he : DE X M W e m)
    (hs : swapsWith e (some (.Attribute (.Name x p) f p')) pos.line X.env = pure false := by rfl) : DS X M W (.Assign [.Attribute (.Name x p) f p'] e pos) (sFldD i c f m) := by
  obtain ⟨t, pe, q⟩ := he
  have na := Cl.no f hf
  rw [hK] at na
  refine ⟨_, ps_fld (pe_var hN hv hd hcd) pe hs, fun σ H F ρ E sm h => ?_⟩
  refine q σ H F ρ _ sm (PostD.go (PostD.step (P := fun r => PostS M W σ ρ F H r E) (fun z => z) (fun e ρ' z F' H' cls d st sm ok => z F' H' σ cls d st sm ok) h fun d ρ1 F1 H1 v st1 sm1 r1 h1 => ?_))
  split at h1
  · rename_i io c' fs e0
    split at h1
    · rename_i hc
      obtain ⟨rfl, hl⟩ := hc
      obtain ⟨y, u, e1, g1, g2, g3⟩ := sm1.ow i io _ e0
      cases g3 with
      | ob rf k0 =>
        refine ⟨.ref y, e1, y, _, _, _, rfl, g1, by rw [← hK]; exact k0.1, na, by rw [repF_len rf]; omega, ?_⟩
        obtain ⟨st2, sm2⟩ := upd_okG st1 sm1 e0 e1 (OcRep.ob (repF_put (f := f) r1 rf) (k0.put (d := d) (by rw [hK]; exact na)))
        exact h1 F1 _ σ st2 sm2
    · exact h1.elim
  · exact h1.elim
/-! .. an object is made -/
theorem run_mk {CX : CXT} {k : Nat} {C g : Addr} {fd : FuncData} {ps : List Str} {sp : Sp} {us ds : List Value} {vs dvs : List V} {E : XK} {Q : VK} {s : Shared} {pins : List (Addr × Obj)} (mk : Mk X.K C g) (ok : FnOk X.prog X.w X.K X.mg X.base CX k g fd ps sp) (room : Room (k + 1) X.A) (bi : Binds X.K fd ps ds) (dv : Vals dvs ds)
    (pass : PassesAt CX X σ E) (inv : L2.Inv X pins σ H s) (rel : Vals vs us)
    (want : ∀ y dy, H y = none → H dy = none → dy ≠ y → sp (.ref y :: (vs ++ dvs)) (upd (upd H dy (.own y)) y (.ins C dy [])) (fun v H2 => v = .non ∧ Q (.ref y) H2) E) :
    wpAny (model X.prog X.w) X.A (call (.ref C) us) (EP X pins σ Q) X.xe s := by
  obtain ⟨n0, n1⟩ : H s.heap.objs.size = none ∧ H (s.heap.objs.size + 1) = none := ⟨inv.hok.fresh (Nat.le_refl _), inv.hok.fresh (Nat.le_succ _)⟩
  have spec := want _ _ n1 n0 (Nat.ne_of_lt (Nat.lt_succ_self _))
  have J := Inv.made (C := C) inv
  have rel2 : Vals (V.ref (s.heap.objs.size + 1) :: (vs ++ dvs)) (Value.ref (s.heap.objs.size + 1) :: (us ++ ds)) := .cons rfl (rel.append dv)
  have len : (Value.ref (s.heap.objs.size + 1) :: us ++ ds).length = ps.length := by
    have z := rel2.length
    rw [ok.len _ _ _ _ spec] at z
    exact z.symm
  have run := ok.run _ X.stack _ _ ⟨Value.ref (s.heap.objs.size + 1) :: us, []⟩ (Value.ref (s.heap.objs.size + 1) :: (us ++ ds)) _ _ E (room.make C us []) (J.env0.make C us []) (bi _ (Value.ref (s.heap.objs.size + 1) :: us) J.kIn len) rel2 spec
  refine wpAny_call (make_map (f := g) inv.kIn mk.makes mk.init (beq_iff_eq.mp mk.fn) (codeAny_mono run ?_))
  rintro r t got
  match r, got with
  | .error er, got => exact pass pins _ _ er t J got
  | .ok (.ret u), got =>
    obtain ⟨v, G, J2, rv, ev, q⟩ := J.after got
    subst ev
    exact ⟨rv, ⟨V.ref (s.heap.objs.size + 1), G, J2, rfl, q⟩⟩
/-- C(e, ..) where an exception goes out by the slots -/
def tMk (C : Addr) (sp : Sp) (dvs : List V) (E : L2.St → XK) (t : TA) : TE := fun σ H Q => t σ H fun vs H1 => ∀ y dy, H1 y = none → H1 dy = none → dy ≠ y → sp (.ref y :: (vs ++ dvs)) (upd (upd H1 dy (.own y)) y (.ins C dy [])) (fun v H2 => v = .non ∧ Q (.ref y) H2) (E σ)
theorem pe_mk {CX : CXT} {k : Nat} {C g : Addr} {fd : FuncData} {ps : List Str} {sp : Sp} {ds : List Value} {dvs : List V} {E : L2.St → XK} {t : TA} (mk : Mk X.K C g) (ok : FnOk X.prog X.w X.K X.mg X.base CX k g fd ps sp) (room : Room (k + 1) X.A) (gl : Gl X x) (at_ : X.mg x = some (.ref C)) (bi : Binds X.K fd ps ds) (dv : Vals dvs ds)
    (pass : ∀ σ, PassesAt CX X σ (E σ)) (pa : PA X (e :: es) t) (ndb : (x == ("__debug__" : Str)) = false) (he : starEach (e :: es) X.env = (false, eval e X.env) :: starEach es X.env := by rfl) (hpl : (backTo pos (starEach es X.env)).any (·.1) = false := by rfl) :
    PE X (.Call (.Name x p) (e :: es) [] pos) (tMk C sp dvs E t) := by
  constructor
  intro pins s τ G Q inv want
  apply wpAny_Call_Name_kw
  refine ld_glob inv gl at_ ?_ ndb
  refine PySem.W.callWith_K (h₀ := X.base) inv.ok.mod.kin mk.kp (thn (pa.run pos pins s τ G _ inv want) ?_) he hpl
  rintro us s1 ⟨vs, G1, J, rel, q⟩
  exact ⟨J.kIn, run_mk mk ok room bi dv (pass τ) J rel q⟩
def dMake (c : Str) (n : Nat) (dds : List D) (mI : SE → R RV) (ms : DM (List AV)) : DM RV := fun ρ => (ms ρ).bind fun as ρ1 => match avD as with
  | some xs => if (xs ++ dds).length + 1 = n then (match mI (.ow true (.ob c []) :: (xs ++ dds).map SV.im) with
    | .ok (.im .non) (.ow true (.ob c' fs) :: _) => .ok (.ow (.ob c' fs)) ρ1
    | .ex e _ => .ex e ρ1
    | _ => .bad) else .bad
  | none => .bad
theorem make_sim {c : Str} {vs : List V} {xs : List D} {y dy : Addr} (sm : Sim M F H σ ρ) (r : Reps M F vs xs) (cl : Cls M.K (M.ca c)) (ny : H y = none) (ndy : H dy = none) (ne : dy ≠ y) :
    Sim M F (upd (upd H dy (.own y)) y (.ins (M.ca c) dy [])) ((.ref y :: vs).map some) (.ow true (.ob c []) :: xs.map SV.im) := by
  have sH : Same H (upd (upd H dy (.own y)) y (.ins (M.ca c) dy [])) := (same_upd ndy).trans (same_upd (by rw [upd_ne (Ne.symm ne)]; exact ny))
  have at_ : ∀ (i : Nat) sv, (xs.map SV.im)[i]? = some sv → ∃ d, sv = .im d ∧ xs[i]? = some d := fun i sv z => by
    rw [List.getElem?_map] at z
    obtain ⟨d, z1, z2⟩ := map_some z
    exact ⟨d, z2.symm, z1⟩
  refine ⟨⟨sm.sub.trans sH, sm.ntb⟩, sm.tabs.ext sH, ?_, fun i d z => ?_, fun i io oc z => ?_, fun i l q o1 o2 _ _ => ?_⟩
  · simp [r.length]
  · cases i with
    | zero => cases z
    | succ i =>
      rw [List.getElem?_cons_succ] at z
      obtain ⟨d', z1, z2⟩ := at_ i _ z
      cases z1
      obtain ⟨v, g1, g2⟩ := r.get z2
      refine ⟨v, ?_, g2⟩
      rw [List.map_cons, List.getElem?_cons_succ, List.getElem?_map, g1]
      rfl
  · cases i with
    | zero =>
      cases z
      exact ⟨y, _, rfl, upd_same, sm.sub.free ny, .ob .nil ⟨cl, fun f hf => by cases hf⟩⟩
    | succ i =>
      rw [List.getElem?_cons_succ] at z
      obtain ⟨d', z1, z2⟩ := at_ i _ z
      cases z1
  · have zero : ∀ i, isOw (.ow true (.ob c []) :: xs.map SV.im) i → i = 0 := fun i ⟨io, oc, z⟩ => by
      cases i with
      | zero => rfl
      | succ i =>
        rw [List.getElem?_cons_succ] at z
        obtain ⟨d', z1, z2⟩ := at_ i _ z
        cases z1
    rw [zero i o1, zero l o2]
/-- the caller's state behind the making -/
theorem make_back {c : Str} {vs : List V} {xs : List D} {y dy : Addr} {svs : SE} (sm : Sim M F H σ ρ) (ny : H y = none) (ndy : H dy = none) (ne : dy ≠ y)
    (st : Stp F (upd (upd H dy (.own y)) y (.ins (M.ca c) dy [])) ((.ref y :: vs).map some) (.ow true (.ob c []) :: xs.map SV.im) F2 H2 ((.ref y :: vs).map some) svs) (sm2 : Sim M F2 H2 ((.ref y :: vs).map some) svs) : Stp F H σ ρ F2 H2 σ ρ ∧ Sim M F2 H2 σ ρ := by
  have sH : Same H (upd (upd H dy (.own y)) y (.ins (M.ca c) dy [])) := (same_upd ndy).trans (same_upd (by rw [upd_ne (Ne.symm ne)]; exact ny))
  have only : ∀ q, Own ((.ref y :: vs).map some) (.ow true (.ob c []) :: xs.map SV.im) q → q = y := fun q ⟨i, ⟨io, oc, z⟩, z2⟩ => by
    cases i with
    | zero =>
      cases z2
      rfl
    | succ i =>
      rw [List.getElem?_cons_succ, List.getElem?_map] at z
      obtain ⟨d, _, z1⟩ := map_some z
      cases z1
  have fr : ∀ q, Fre (upd (upd H dy (.own y)) y (.ins (M.ca c) dy [])) q → Fre H q := fun q z o z1 => z o (sH _ _ z1)
  refine ⟨⟨st.same, fun q o z _ nt => st.keep q o (sH _ _ z) (fun z1 => ?_) nt, fun q z => .inl z, fun q o z => ?_, fun q z => fr q (st.dom q z), fun _ d z => ⟨rfl, d, z⟩, fun _ d z => ⟨d, z⟩⟩, ⟨sm2.sub0, sm2.tabs, sm.len, fun i d z => ?_, fun i io oc z => ?_, sm.inj⟩⟩
  · rw [only q z1, ny] at z
    cases z
  · rcases st.newF q o z with z1 | z1 | z1
    · exact .inl z1
    · exact .inr (.inr (by rw [only q z1]; exact .of ny))
    · exact .inr (.inr (fr q z1))
  · obtain ⟨v, e1, r⟩ := sm.im i d z
    exact ⟨v, e1, r.up st.same⟩
  · obtain ⟨q, o, e1, h1, h2, r⟩ := sm.ow i io oc z
    have nq : ¬ Own ((.ref y :: vs).map some) (.ow true (.ob c []) :: xs.map SV.im) q := fun z1 => by
      rw [only q z1, ny] at h1
      cases h1
    refine ⟨q, o, e1, st.keep _ _ (sH _ _ h1) nq r.nt, ?_, r.up st.same⟩
    cases e2 : F2 q with
    | none => rfl
    | some u =>
      rcases st.newF q u e2 with z1 | z1 | z1
      · rw [h2] at z1
        cases z1
      · exact (nq z1).elim
      · exact ((fr q z1).no h1 r.nt).elim
theorem args_im (xs : List D) {c : Str} : argsIn (.ow true (.ob c []) :: xs.map SV.im) := fun i sv z => by
  cases i with
  | zero =>
    cases z
    exact .inr ⟨_, rfl⟩
  | succ i =>
    rw [List.getElem?_cons_succ, List.getElem?_map] at z
    obtain ⟨d, _, z1⟩ := map_some z
    exact .inl ⟨d, z1.symm⟩
theorem de_make {k n : Nat} {dvs : List V} {dds : List D} {c : Str} {mm : SE → R RV} (C : CxD P w base M N sc j X W) (I : ICal P w base M c k n mm) (bd : ∃ dus, Vals dvs dus ∧ Binds M.K I.fd I.ps dus) (hds : ∀ F, Reps M F dvs dds) (g : GlOk sc c) (hk : k + 1 ≤ j) (ha : DA X M W (a :: es) ms)
    (he : starEach (a :: es) X.env = (false, eval a X.env) :: starEach es X.env := by rfl) (hpl : (backTo pos (starEach es X.env)).any (·.1) = false := by rfl) :
    DE X M W (.Call (.Name c p) (a :: es) [] pos) (dMake c n dds mm ms) := by
  obtain ⟨f, fd, ps, gc, cl, mk, b, ok⟩ := I
  obtain ⟨dus, vd, bd⟩ := bd
  obtain ⟨t, pa, qa⟩ := ha
  have hP := C.hP
  have hw := C.hw
  have hB := C.hB
  subst hP hw hB
  have hK := C.hK
  have hM := C.hM
  rw [hM] at gc
  have mk' := mk
  rw [hK] at mk' bd
  have ok' := ok
  rw [hK, hM] at ok'
  refine ⟨_, pe_mk (E := fun σ cls d H' => W cls d σ H') mk' ok' (C.hr.mono hk) (C.glo g) gc bd vd (fun σ => passAt C.tk σ) pa g.nd he hpl, fun σ H F ρ Q sm h => ?_⟩
  refine qa σ H F ρ _ sm (PostA.goE h fun as ρ1 F1 H1 vs _ st1 sm1 ok1 h1 => ?_)
  cases e1 : avD as with
  | none =>
    rw [e1] at h1
    exact h1.elim
  | some xs =>
    rw [e1] at h1
    have h1 : Post M W σ ρ F H (if (xs ++ dds).length + 1 = n then (match mm (.ow true (.ob c []) :: (xs ++ dds).map SV.im) with
      | .ok (.im .non) (.ow true (.ob c' fs) :: _) => .ok (.ow (.ob c' fs)) ρ1
      | .ex e _ => .ex e ρ1
      | _ => .bad) else .bad) Q := h1
    split at h1
    · rename_i hn
      intro y dy ny ndy ne
      have rs := (avD_ok ok1 e1).append (hds F1)
      refine ⟨F1, _, by rw [List.length_cons, rs.length]; exact hn, args_im _, make_sim sm1 rs cl ny ndy ne, ?_⟩
      cases e2 : mm (.ow true (.ob c []) :: (xs ++ dds).map SV.im) with
      | bad =>
        rw [e2] at h1
        exact h1.elim
      | ex x svs =>
        rw [e2] at h1
        intro F2 H2 cls d st2 sm2 ok2
        obtain ⟨st3, sm3⟩ := make_back sm1 ny ndy ne st2 sm2
        exact h1 F2 H2 cls d (st1.trans st3) sm3 ok2
      | ok r svs =>
        rw [e2] at h1
        intro F2 H2 v st2 sm2 ok2
        obtain ⟨st3, sm3⟩ := make_back sm1 ny ndy ne st2 sm2
        clear e2
        split at h1
        · rename_i heq
          have ok2 : Rep M F2 v .non := by
            cases heq
            exact ok2
          cases ok2
          refine ⟨rfl, ?_⟩
          have no : ¬ Own σ ρ1 y := fun z => by
            obtain ⟨_, o, z5, _⟩ := sm1.ownF z
            rw [ny] at z5
            cases z5
          cases heq
          obtain ⟨q, u, z1, z2, z3, z4⟩ := sm2.ow 0 true _ rfl
          cases z1
          exact h1 F2 H2 _ (st1.trans st3) sm3 ⟨y, u, rfl, z2, z3, z4, no, st1.dom _ (.of ny)⟩
        · rename_i heq
          cases heq
        · exact h1.elim
    · exact h1.elim
end
end DL

/- part -/
set_option Elab.async false
set_option linter.all false
set_option maxRecDepth 100000
set_option maxHeartbeats 1000000
namespace DL
open PySem PySem.Spec PyProof.Rows L2
section
variable {M : Mx} {F H : Hp}
theorem repF_keys : ∀ {vs : List (Str × V)} {fs : List (Str × D)}, RepF M F vs fs → vs.map (·.1) = fs.map (·.1)
  | _, _, .nil => rfl
  | _, _, .cons _ t => by rw [List.map_cons, List.map_cons, repF_keys t]
theorem lookup_out {β : Type} {f : Str} : ∀ {vs : List (Str × β)}, f ∉ vs.map (·.1) → vs.lookup f = none
  | [], _ => rfl
  | (g, v) :: vs, h => by
    rw [List.lookup_cons]
    have h1 : (f == g) = false := beq_eq_false_iff_ne.mpr fun z => h (by rw [z]; exact List.mem_cons_self)
    rw [h1]
    exact lookup_out fun z => h (List.mem_cons_of_mem _ z)
end
section
variable {P : Program} {w : World} {base : Heap} {N : List Str} {sc : Scope} {j : Nat}
variable {M : Mx} {W : WX} {X : Cx} {F H F' H' F1 H1 F2 H2 H0 : Hp} {σ σ1 : L2.St} {ρ ρ1 ρ2 : SE}
variable {a b c e o : Expr} {ma mb m m1 m2 mo : DM RV} {es : List Expr} {ms : DM (List AV)} {pos p p' apos : Pos} {x f mn : Str}
/-- one of two readings -/
theorem de_alt (h1 : DE X M W e m1) (h2 : DE X M W e m2) (h : ∀ ρ, m ρ = m1 ρ ∨ m ρ = m2 ρ) : DE X M W e m := by
  obtain ⟨t1, p1, q1⟩ := h1
  obtain ⟨t2, p2, q2⟩ := h2
  refine ⟨fun σ H Q => t1 σ H Q ∨ t2 σ H Q, ⟨fun pins s σ H Q I z => z.elim (p1.run pins s σ H Q I) (p2.run pins s σ H Q I)⟩, fun σ H F ρ Q sm z => ?_⟩
  rcases h ρ with e | e
  · rw [e] at z
    exact .inl (q1 σ H F ρ Q sm z)
  · rw [e] at z
    exact .inr (q2 σ H F ρ Q sm z)
/-- o.m(e, ..) where an exception goes out by the slots -/
def tMt (C : Addr) (m : Str) (sp : Sp) (dvs : List V) (E : L2.St → XK) (ta : TE) (t : TA) : TE := fun σ H Q => ta σ H fun x H1 => ∃ a dx fs, x = .ref a ∧ H1 a = some (.ins C dx fs) ∧ fs.lookup m = none ∧ t σ H1 fun vs H2 => sp (x :: (vs ++ dvs)) H2 Q (E σ)
theorem pe_mt {CX : CXT} {k : Nat} {C g : Addr} {fd : FuncData} {ps : List Str} {sp : Sp} {ds : List Value} {dvs : List V} {E : L2.St → XK} {ta : TE} {t : TA} {pl : Sem Bool} (po : PE X o ta) (cl : Cls X.K C) (me : Meth X.K C mn g) (ok : FnOk X.prog X.w X.K X.mg X.base CX k g fd ps sp) (room : Room k X.A) (bi : Binds X.K fd ps ds) (dv : Vals dvs ds)
    (pass : ∀ σ, PassesAt CX X σ (E σ)) (pa : PA X (e :: es) t) (he : starEach (e :: es) X.env = (false, eval e X.env) :: starEach es X.env := by rfl) (hpl : (backTo pos (starEach es X.env)).any (·.1) = false := by rfl)
    (ev : eval (.Call (.Attribute o mn apos) (e :: es) [] pos) X.env = (do
      let recv ← eval o X.env
      standAt apos.atName
      let (fn, one) ← holding [recv] (getMethod recv mn pl)
      callWith pos fn one (backTo pos (starEach (e :: es) X.env)) (backToKw pos (keywordEach [] X.env))) := by rfl) :
    PE X (.Call (.Attribute o mn apos) (e :: es) [] pos) (tMt C mn sp dvs E ta t) := by
  constructor
  intro pins s τ G Q inv want
  refine PySem.W.methodCall_KW (pl := pl) (thn (po.run pins s τ G _ inv want) ?_) ev
  rintro u s1 ⟨v, G1, J, rv, q, dx, fs, rfl, at_, l, rest⟩
  rw [show u = Value.ref q from rv]
  refine getmeth_ok J at_ cl me l ?_
  refine PySem.W.callWith_K (first := [.ref q]) (h₀ := X.base) J.ok.mod.kin me.kp (thn (pa.run pos pins s1 τ G1 _ J rest) ?_) he hpl
  rintro us s2 ⟨vs, G2, J2, rel, q2⟩
  exact ⟨J2.kIn, run_fnSD (us := .ref q :: us) (vs := .ref q :: vs) ok room bi dv (pass τ) J2 (.cons rfl rel) q2⟩
theorem pe_mt0 {CX : CXT} {k : Nat} {C g : Addr} {fd : FuncData} {ps : List Str} {sp : Sp} {ds : List Value} {dvs : List V} {E : L2.St → XK} {ta : TE} {pl : Sem Bool} (po : PE X o ta) (cl : Cls X.K C) (me : Meth X.K C mn g) (ok : FnOk X.prog X.w X.K X.mg X.base CX k g fd ps sp) (room : Room k X.A) (bi : Binds X.K fd ps ds) (dv : Vals dvs ds)
    (pass : ∀ σ, PassesAt CX X σ (E σ))
    (ev : eval (.Call (.Attribute o mn apos) [] [] pos) X.env = (do
      let recv ← eval o X.env
      standAt apos.atName
      let (fn, one) ← holding [recv] (getMethod recv mn pl)
      callWith pos fn one (backTo pos (starEach [] X.env)) (backToKw pos (keywordEach [] X.env))) := by rfl) :
    PE X (.Call (.Attribute o mn apos) [] [] pos) (tMt C mn sp dvs E ta tNil) := by
  constructor
  intro pins s τ G Q inv want
  refine PySem.W.methodCall_KW (pl := pl) (thn (po.run pins s τ G _ inv want) ?_) ev
  rintro u s1 ⟨v, G1, J, rv, q, dx, fs, rfl, at_, l, rest⟩
  rw [show u = Value.ref q from rv]
  refine getmeth_ok J at_ cl me l ?_
  exact PySem.W.callWith_K0 (first := [.ref q]) J.kIn me.kp (run_fnSD (us := [.ref q]) (vs := [.ref q]) ok room bi dv (pass τ) J (.cons rfl .nil) rest)
/-- an argument ahead of the others -/
def aFst (d : D) (ms : DM (List AV)) : DM (List AV) := fun ρ => (ms ρ).bind fun as ρ2 => .ok (.d d :: as) ρ2
def dMeth (tab : List (Str × (SE → R RV))) (n : Nat) (dds : List D) (mo : DM RV) (ms : DM (List AV)) : DM RV := fun ρ => (dFz mo ρ).bind fun d ρ1 => match d with
  | .obj c fs => (match tab.lookup c with
    | some mm => dCall n dds mm (aFst d ms) ρ1
    | none => .bad)
  | _ => .bad
theorem meth_two (q : Str × (SE → R RV)) (tab : List (Str × (SE → R RV))) {n : Nat} {dds : List D} (ρ : SE) : dMeth (q :: tab) n dds mo ms ρ = dMeth [q] n dds mo ms ρ ∨ dMeth (q :: tab) n dds mo ms ρ = dMeth tab n dds mo ms ρ := by
  unfold dMeth
  cases dFz mo ρ with
  | bad => exact .inl rfl
  | ex x ρ1 => exact .inl rfl
  | ok d ρ1 =>
    cases d with
    | obj c fs =>
      obtain ⟨k, mm⟩ := q
      show (match List.lookup c ((k, mm) :: tab) with
        | some mm => dCall n dds mm (aFst (.obj c fs) ms) ρ1
        | none => .bad) = (match List.lookup c [(k, mm)] with
        | some mm => dCall n dds mm (aFst (.obj c fs) ms) ρ1
        | none => .bad) ∨ (match List.lookup c ((k, mm) :: tab) with
        | some mm => dCall n dds mm (aFst (.obj c fs) ms) ρ1
        | none => .bad) = (match List.lookup c tab with
        | some mm => dCall n dds mm (aFst (.obj c fs) ms) ρ1
        | none => .bad)
      rw [List.lookup_cons, List.lookup_cons]
      cases e : c == k with
      | true => exact .inl rfl
      | false => exact .inr rfl
    | _ => exact .inl rfl
theorem q_meth {t : TA} {to : TE} {n : Nat} {mm : SE → R RV} {c : Str} {g : Addr} {dvs : List V} {dds : List D} (qo : ∀ σ H F ρ Q, Sim M F H σ ρ → Post M W σ ρ F H (mo ρ) Q → to σ H Q) (qa : ∀ σ H F ρ Q, Sim M F H σ ρ → PostA M W σ ρ F H (ms ρ) Q → t σ H Q) (hds : ∀ F, Reps M F dvs dds) (me : Meth M.K (M.ca c) mn g) :
    ∀ σ H F ρ Q, Sim M F H σ ρ → Post M W σ ρ F H (dMeth [(c, mm)] n dds mo ms ρ) Q → tMt (M.ca c) mn (spD M n mm) dvs (fun σ cls d H' => W cls d σ H') to t σ H Q := fun σ H F ρ Q sm h => by
  refine qo σ H F ρ _ sm (PostD.go (PostD.step (P := fun r => Post M W σ ρ F H r Q) (fun z => z) (fun e ρ' z => z) h fun d ρ1 F1 H1 v st1 sm1 r1 h1 => ?_))
  cases d with
  | obj c' fs =>
    replace h1 : Post M W σ ρ F H (match List.lookup c' [(c, mm)] with
      | some mm => dCall n dds mm (aFst (.obj c' fs) ms) ρ1
      | none => .bad) Q := h1
    rw [List.lookup_cons] at h1
    cases e : c' == c with
    | false =>
      rw [e] at h1
      exact h1.elim
    | true =>
      rw [e] at h1
      have e := eq_of_beq e
      subst e
      replace h1 : Post M W σ ρ F H (dCall n dds mm (aFst (.obj c' fs) ms) ρ1) Q := h1
      have r0 := r1
      cases r1 with
      | @obj ad dx _ vs _ g1 g2 g3 =>
        refine ⟨ad, dx, vs, rfl, sm1.sub.go _ _ g1, lookup_out fun z => ?_, ?_⟩
        · rw [repF_keys g2] at z
          have z2 : PySem.W.findIn M.K (.ref (M.ca c')) mn = some none := g3.2 mn z
          have z3 := me.at_
          rw [z2] at z3
          cases z3
        · refine qa σ H1 F1 ρ1 _ sm1 (PostA.goE (Q := Q) (g := fun as ρ2 => if ((AV.d (.obj c' fs) :: as) ++ dds.map AV.d).length = n then callR mm ((AV.d (.obj c' fs) :: as) ++ dds.map AV.d) ρ2 else .bad) ?_ fun as ρ2 F2 H2 ws e st2 sm2 ok2 h2 => ?_)
          · have h2 := Post.from st1 h1
            unfold dCall aFst at h2
            cases e2 : ms ρ1 with
            | bad =>
              rw [e2] at h2
              exact h2
            | ex x ρ2 =>
              rw [e2] at h2
              exact h2
            | ok as ρ2 =>
              rw [e2] at h2
              exact h2
          · have ok1 : AvsOk M F2 σ ρ2 (.ref ad :: ws) (.d (.obj c' fs) :: as) := .cons (show AvOk M F2 σ ρ2 _ (.d _) from Rep.up st2.same r0) ok2
            have ok3 := ok1.app (hds F2)
            by_cases hn : ((AV.d (.obj c' fs) :: as) ++ dds.map AV.d).length = n
            · rw [if_pos hn] at h2
              exact call_sp ok3 sm2 (by rw [← hn]; exact ok3.len) (Post.from st2 h2)
            · rw [if_neg hn] at h2
              exact h2.elim
  | _ => exact h1.elim
theorem de_meth1 {k n : Nat} {mm : SE → R RV} {c : Str} {dvs : List V} {dds : List D} {pl : Sem Bool} (C : CxD P w base M N sc j X W) (I : MCal P w base M c mn k n mm) (bd : ∃ dus, Vals dvs dus ∧ Binds M.K I.fd I.ps dus) (hds : ∀ F, Reps M F dvs dds) (hk : k ≤ j) (ho : DE X M W o mo) (ha : DA X M W (a :: es) ms)
    (he : starEach (a :: es) X.env = (false, eval a X.env) :: starEach es X.env := by rfl) (hpl : (backTo pos (starEach es X.env)).any (·.1) = false := by rfl)
    (ev : eval (.Call (.Attribute o mn apos) (a :: es) [] pos) X.env = (do
      let recv ← eval o X.env
      standAt apos.atName
      let (fn, one) ← holding [recv] (getMethod recv mn pl)
      callWith pos fn one (backTo pos (starEach (a :: es) X.env)) (backToKw pos (keywordEach [] X.env))) := by rfl) :
    DE X M W (.Call (.Attribute o mn apos) (a :: es) [] pos) (dMeth [(c, mm)] n dds mo ms) := by
  obtain ⟨f, fd, ps, cl, me, b, ok⟩ := I
  obtain ⟨dus, vd, bd⟩ := bd
  obtain ⟨t, pa, qa⟩ := ha
  obtain ⟨to, po, qo⟩ := ho
  have hP := C.hP
  have hw := C.hw
  have hB := C.hB
  subst hP hw hB
  have hK := C.hK
  have hM := C.hM
  have Q := q_meth (mm := mm) (n := n) qo qa hds me
  rw [hK] at cl me bd
  rw [hK, hM] at ok
  exact ⟨_, pe_mt (E := fun σ cls d H' => W cls d σ H') po cl me ok (C.hr.mono hk) bd vd (fun σ => passAt C.tk σ) pa he hpl ev, Q⟩
theorem de_meth10 {k n : Nat} {mm : SE → R RV} {c : Str} {dvs : List V} {dds : List D} {pl : Sem Bool} (C : CxD P w base M N sc j X W) (I : MCal P w base M c mn k n mm) (bd : ∃ dus, Vals dvs dus ∧ Binds M.K I.fd I.ps dus) (hds : ∀ F, Reps M F dvs dds) (hk : k ≤ j) (ho : DE X M W o mo)
    (ev : eval (.Call (.Attribute o mn apos) [] [] pos) X.env = (do
      let recv ← eval o X.env
      standAt apos.atName
      let (fn, one) ← holding [recv] (getMethod recv mn pl)
      callWith pos fn one (backTo pos (starEach [] X.env)) (backToKw pos (keywordEach [] X.env))) := by rfl) :
    DE X M W (.Call (.Attribute o mn apos) [] [] pos) (dMeth [(c, mm)] n dds mo aNil) := by
  obtain ⟨f, fd, ps, cl, me, b, ok⟩ := I
  obtain ⟨dus, vd, bd⟩ := bd
  obtain ⟨to, po, qo⟩ := ho
  have hP := C.hP
  have hw := C.hw
  have hB := C.hB
  subst hP hw hB
  have hK := C.hK
  have hM := C.hM
  have Q := q_meth (mm := mm) (n := n) (W := W) (ms := aNil) (t := tNil) qo (fun σ H F ρ Q sm h => h F H [] (Stp.refl _ _ _ _) sm .nil) hds me
  rw [hK] at cl me bd
  rw [hK, hM] at ok
  exact ⟨_, pe_mt0 (E := fun σ cls d H' => W cls d σ H') po cl me ok (C.hr.mono hk) bd vd (fun σ => passAt C.tk σ) ev, Q⟩
theorem de_methN {q : Str × (SE → R RV)} {tab : List (Str × (SE → R RV))} {n : Nat} {dds : List D} (h1 : DE X M W e (dMeth [q] n dds mo ms)) (h2 : DE X M W e (dMeth tab n dds mo ms)) : DE X M W e (dMeth (q :: tab) n dds mo ms) := de_alt h1 h2 (meth_two q tab)
theorem bd_nil {fd : FuncData} {ps : List Str} {K : PySem.W.Frag} (b : Binds K fd ps []) : ∃ dus, Vals [] dus ∧ Binds K fd ps dus := ⟨[], .nil, b⟩
end
end DL

/- part -/
set_option Elab.async false
set_option linter.all false
set_option maxRecDepth 100000
set_option maxHeartbeats 1000000
namespace DL
open PySem PySem.Spec PyProof.Rows L2
/-! ### sorted of a tuple -/
section
variable {prog : Program} {w : World} {A : Around} {E : Value → Shared → Prop} {s : Shared}
theorem collectT {l : Addr} {vs : List Value} {o : Obj} {n : Nat} {Q : List Value → Shared → Prop} (at_ : s.heap.get? l = some o) (cl : o.cls = .type "tuple") (da : o.data = .seq vs.toArray n) (fits : vs.length ≤ sizeLine)
    (want : Q vs { s with heap := (s.heap.push (seqObj "list" #[] 0)).update s.heap.objs.size (Obj.mapSeq (· ++ vs.toArray)) }) : wpAny (model prog w) A (collect (.ref l)) Q E s := by
  unfold collect
  refine wpAny_bind (wpAny_runValue (codeAny_builtin entry_proto_collect' ?_))
  show wpAny _ _ (do again (.builtin "list.__iadd__" ⟨[← newList [], .ref l], []⟩)) _ _ s
  refine wpAny_bind (wpAny_newList (wpAny_pure ⟨Code.quiet_builtin _ (by decide +kernel), codeAny_builtin entry_list_iadd' ?_⟩))
  show wpAny _ _ (Builtin.List.listExtendWith (.ref s.heap.objs.size) (.ref l) (.ref s.heap.objs.size)) _ _ { s with heap := s.heap.push (seqObj "list" #[] 0) }
  unfold Builtin.List.listExtendWith
  have at2 : (s.heap.push (seqObj "list" #[] 0)).get? l = some o := Heap.get?_push_of_some _ at_
  refine wpAny_bind (wpAny_typeOf (T := "tuple") ⟨o, at2, cl⟩ ?_)
  have eqT : (Value.type "tuple" == Value.type "tuple") = true := by rfl
  rw [if_pos (by rw [eqT]; simp)]
  refine wpAny_bind (listItems_at at2 da ?_)
  refine wpAny_bind (listItems_at (n := 0) (xs := #[]) (Heap.get?_push_size _ rfl) rfl ?_)
  rw [if_neg (by simp)]
  refine wpAny_bind (listUpdate_at (n := 0) (xs := #[]) (Heap.get?_push_size _ rfl) rfl ?_ (Nat.zero_le _) (by show (#[] ++ vs.toArray).size ≤ sizeLine + 1; simp only [Array.size_append, List.size_toArray, List.length_nil]; omega))
  refine wpAny_pure ?_
  show wpAny (model prog w) A (do
      let o ← load s.heap.objs.size
      match o.data with
      | .seq xs _ => pure xs.toList
      | _ => unsupported "internal:collect") Q E { s with heap := (s.heap.push (seqObj "list" #[] 0)).update s.heap.objs.size (Obj.mapSeq (· ++ vs.toArray)) }
  refine wpAny_bind (wpAny_load (get?_update_seq (Heap.get?_push_size _ rfl) _) ?_)
  show wpAny _ _ (pure ((#[] : Array Value) ++ vs.toArray).toList) Q E _
  rw [show ((#[] : Array Value) ++ vs.toArray).toList = vs by simp]
  exact wpAny_pure want
theorem sortedT {l : Addr} {vs : List Value} {o : Obj} {n : Nat} {lt : Value → Value → Bool} {Q : Value → Shared → Prop} (swo : SrtO.Swo lt) (at_ : s.heap.get? l = some o) (cl : o.cls = .type "tuple") (da : o.data = .seq vs.toArray n) (fits : vs.length ≤ sizeLine)
    (can : 2 ≤ vs.length → ∀ (h1 : Heap) (a : Addr), SrtO.SortableO prog w A.in1.in1 { s with heap := h1 } a vs lt)
    (want : ∀ out : List Value, SrtO.Srtd lt out → SrtO.Stb lt out vs → Q (.ref (s.heap.objs.size + 1)) { s with heap := sortedAll s.heap vs out.toArray }) :
    wpAny (model prog w) A (call (.builtin "sorted") [.ref l]) Q E s := by
  refine Calls.call_function_entry kind_sorted plain_sorted entry_sorted (args_sorted1 _) ?_
  unfold Builtin.«sorted»
  refine wpAny_bind (m := checkCount "sorted" 1 1 _) (wpAny_pure ?_)
  refine wpAny_bind (collectT at_ cl da fits ?_)
  refine wpAny_bind (wpAny_newList ?_ fits)
  have size1 : ((s.heap.push (seqObj "list" #[] 0)).update s.heap.objs.size (Obj.mapSeq (· ++ vs.toArray))).objs.size = s.heap.objs.size + 1 := by
    rw [Heap.size_update, size_push']
  have at2 : (((s.heap.push (seqObj "list" #[] 0)).update s.heap.objs.size (Obj.mapSeq (· ++ vs.toArray))).push (seqObj "list" vs.toArray 0)).get? (s.heap.objs.size + 1) = some (seqObj "list" vs.toArray 0) := by
    rw [← size1]
    exact Heap.get?_push_size _ rfl
  show wpAny _ _ _ _ _ { s with heap := ((s.heap.push (seqObj "list" #[] 0)).update s.heap.objs.size (Obj.mapSeq (· ++ vs.toArray))).push (seqObj "list" vs.toArray 0) }
  rw [size1]
  refine wpAny_bind (wpAny_holding (wpAny_call_entry slot_list_sort ⟨_, at2, rfl⟩ entry_list_sort (SrtO.list_sort_ord swo at2 fits (fun two => can two _ _) fun out z1 z2 => ⟨_, rfl, ?_⟩) (args_list_sort _)))
  exact wpAny_pure ⟨_, rfl, want out z1 z2⟩
end
section
variable {X : Cx}
def rSrt (K : PySem.W.Frag) : List V → Hp → VK → Prop := fun vs H Q => ∃ (a : Addr) (ns : List Int), vs = [V.ref a] ∧ (SqL K H a (ns.map V.int) ∨ SqT K H a (ns.map V.int)) ∧
  ∀ (ms : List Int) (p : Addr), ms.Perm ns → ms.Pairwise (· ≤ ·) → H p = none → Q (.ref p) (upd H p (.lst (ms.map V.int)))
theorem cr_srt : CallR X (.builtin "sorted") (rSrt X.K) := by
  intro pins s σ H vs us Q I r h
  obtain ⟨a, ns, e, hs | hs, q⟩ := h
  · exact cr_sortedI pins s σ H vs us Q I r ⟨a, ns, e, hs, q⟩
  · subst e
    obtain ⟨its, rv, ⟨o, ho, hc, n, hd⟩, hz⟩ := I.tuple hs
    rw [Vals.ref1 r]
    have hi := rv.ints
    refine sortedT SrtO.swo_int ho hc hd (by rw [← rv.length]; exact hz) (fun h2 h1 a' => SrtO.ints_sortable hi h2) fun out z1 z2 => ?_
    obtain ⟨k1, k2, k3⟩ := SrtO.ints_out hi z1 z2
    obtain ⟨ep, at2⟩ := PyProof.Rows.sortedAll_at s.heap its out.toArray
    have fits : ((out.map SrtO.iv).map V.int).length ≤ sizeLine := by
      rw [List.length_map, k2.length_eq]
      rw [List.length_map] at hz
      exact hz
    exact ⟨.ref _, upd H (s.heap.objs.size + 1) (.lst ((out.map SrtO.iv).map V.int)), I.laid (t' := s.toks) (fun _ _ => PyProof.Rows.sortedAll_old) (Nat.le_succ _) ⟨fits, out, ep, vals_of_ints k1, at2⟩, rfl, q _ _ k2 k3 (I.hok.fresh (Nat.le_succ _))⟩
end
/-! ### whole numbers in order -/
def insI (x : Int) : List Int → List Int
  | [] => [x]
  | y :: r => if x ≤ y then x :: y :: r else y :: insI x r
def sortI : List Int → List Int
  | [] => []
  | x :: r => insI x (sortI r)
theorem insI_perm (x : Int) : ∀ l : List Int, (insI x l).Perm (x :: l)
  | [] => .refl _
  | y :: r => by
    unfold insI
    split
    · exact .refl _
    · exact ((insI_perm x r).cons y).trans (.swap x y r)
theorem sortI_perm : ∀ l : List Int, (sortI l).Perm l
  | [] => .refl _
  | x :: r => (insI_perm x _).trans ((sortI_perm r).cons x)
theorem insI_sorted (x : Int) : ∀ l : List Int, l.Pairwise (· ≤ ·) → (insI x l).Pairwise (· ≤ ·)
  | [], _ => List.pairwise_singleton _ _
  | y :: r, h => by
    obtain ⟨h1, h2⟩ := List.pairwise_cons.mp h
    unfold insI
    split
    · rename_i hx
      refine List.pairwise_cons.mpr ⟨fun z hz => ?_, h⟩
      rcases List.mem_cons.mp hz with e | e
      · rw [e]
        exact hx
      · exact Int.le_trans hx (h1 z e)
    · rename_i hx
      refine List.pairwise_cons.mpr ⟨fun z hz => ?_, insI_sorted x r h2⟩
      rcases List.mem_cons.mp ((insI_perm x r).mem_iff.mp hz) with e | e
      · rw [e]
        omega
      · exact h1 z e
theorem sortI_sorted : ∀ l : List Int, (sortI l).Pairwise (· ≤ ·)
  | [] => .nil
  | x :: r => insI_sorted x _ (sortI_sorted r)
theorem sorted_one : ∀ {l m : List Int}, l.Perm m → l.Pairwise (· ≤ ·) → m.Pairwise (· ≤ ·) → l = m
  | [], m, p, _, _ => (List.Perm.nil_eq p)
  | x :: l, [], p, _, _ => absurd p.length_eq (by simp)
  | x :: l, y :: m, p, h1, h2 => by
    obtain ⟨a1, a2⟩ := List.pairwise_cons.mp h1
    obtain ⟨b1, b2⟩ := List.pairwise_cons.mp h2
    have e : x = y := by
      rcases List.mem_cons.mp (p.mem_iff.mp List.mem_cons_self) with e | e
      · exact e
      · rcases List.mem_cons.mp (p.mem_iff.mpr List.mem_cons_self) with e2 | e2
        · exact e2.symm
        · have := b1 x e
          have := a1 y e2
          omega
    subst e
    rw [sorted_one ((List.perm_cons x).mp p) a2 b2]
theorem sortI_of {l m : List Int} (p : m.Perm l) (h : m.Pairwise (· ≤ ·)) : m = sortI l := sorted_one (p.trans (sortI_perm l).symm) h (sortI_sorted l)
theorem sortI_id {l : List Int} (h : l.Pairwise (· ≤ ·)) : sortI l = l := (sortI_of (.refl l) h).symm
theorem sortI_congr {l m : List Int} (p : l.Perm m) : sortI l = sortI m := sortI_of ((sortI_perm l).trans p) (sortI_sorted l)
/-- the whole numbers of a list of data -/
def intsO : List D → Option (List Int)
  | [] => some []
  | .int i :: r => (intsO r).map (i :: ·)
  | _ => none
theorem intsO_map (ns : List Int) : intsO (ns.map D.int) = some ns := by
  induction ns with
  | nil => rfl
  | cons n ns ih =>
    show (intsO (ns.map D.int)).map (n :: ·) = some (n :: ns)
    rw [ih]
    rfl
theorem intsO_eq : ∀ {ds : List D} {ns : List Int}, intsO ds = some ns → ds = ns.map D.int
  | [], _, h => by
    cases h
    rfl
  | d :: ds, ns, h => by
    cases d with
    | int i =>
      have h : (intsO ds).map (i :: ·) = some ns := h
      obtain ⟨ms, e1, e2⟩ := map_some h
      rw [intsO_eq e1, ← e2]
      rfl
    | _ => cases h
theorem reps_ints {M : Mx} {F : Hp} : ∀ {ns : List Int} {vs : List V}, Reps M F vs (ns.map D.int) → vs = ns.map V.int
  | [], _, .nil => rfl
  | n :: ns, _, .cons r t => by
    cases r
    rw [reps_ints t]
    rfl
section
variable {M : Mx} {W : WX} {X : Cx} {F H F' H' F1 H1 H0 : Hp} {σ : L2.St} {ρ ρ1 : SE}
variable {P : Program} {w : World} {base : Heap} {N : List Str} {sc : Scope} {j : Nat}
variable {a b c e : Expr} {ma mb mc m : DM RV} {es : List Expr} {pos p p2 q : Pos} {mv : DM (List D)}
theorem vw_ints {v : V} {d : D} {ds : List D} {ns : List Int} (sub : SubF F H) (h : Vw M F H v d) (hd : d = .lst ds ∨ d = .tup ds) (hi : intsO ds = some ns) : ∃ a, v = .ref a ∧ (SqL M.K H a (ns.map V.int) ∨ SqT M.K H a (ns.map V.int)) := by
  have e := intsO_eq hi
  subst e
  rcases hd with rfl | rfl
  · obtain ⟨a, vs, e1, h1, r⟩ := h
    rw [reps_ints r] at h1
    exact ⟨a, e1, .inl (.inl (.inl h1))⟩
  · obtain ⟨a, vs, e1, h1, r⟩ := vw_tup h
    rw [reps_ints r] at h1
    exact ⟨a, e1, .inr (sub.sqT h1)⟩
def gSorted : List D → Option RV
  | [.lst ds] => (intsO ds).map fun ns => .ow (.ls ((sortI ns).map D.int))
  | [.tup ds] => (intsO ds).map fun ns => .ow (.ls ((sortI ns).map D.int))
  | _ => none
theorem cb_srt : CbOk M (rSrt M.K) gSorted := by
  intro F H vs ds rv Q sub hv hg k
  have main : ∀ {d : D} {es : List D}, Vws M F H vs [d] → (d = .lst es ∨ d = .tup es) → ((intsO es).map fun ns => RV.ow (.ls ((sortI ns).map D.int))) = some rv → rSrt M.K vs H Q := fun {d es} hv hd hg => by
    obtain ⟨ns, e1, e2⟩ := map_some hg
    subst e2
    obtain ⟨v, rfl, h1⟩ := vws1 hv
    obtain ⟨a, e3, h2⟩ := vw_ints sub h1 hd e1
    subst e3
    refine ⟨a, ns, rfl, h2, fun ms p z1 z2 z3 => ?_⟩
    rw [sortI_of z1 z2]
    exact new_lst sub (Reps.ofInts _) k z3
  unfold gSorted at hg
  split at hg
  · exact main hv (.inl rfl) hg
  · exact main hv (.inr rfl) hg
  · cases hg
theorem de_sortedF (C : CxD P w base M N sc j X W) (h : GlOk sc "sorted") (hm : M.mg "sorted" = none) (ha : DV X M W [a] mv) (he : starEach [a] X.env = (false, eval a X.env) :: starEach [] X.env := by rfl) : DE X M W (.Call (.Name "sorted" p) [a] [] pos) (dCb gSorted mv) := de_cbF C cr_srt (C.hK ▸ cb_srt) (by decide +kernel) h hm ha he
/-! ### the greatest, the least -/
def maxI : Int → List Int → Int
  | m, [] => m
  | m, x :: r => maxI (if m < x then x else m) r
def minI : Int → List Int → Int
  | m, [] => m
  | m, x :: r => minI (if x < m then x else m) r
theorem maxI_ge : ∀ (l : List Int) (m : Int), m ≤ maxI m l ∧ ∀ x ∈ l, x ≤ maxI m l
  | [], m => ⟨Int.le_refl m, fun x h => by cases h⟩
  | y :: r, m => by
    obtain ⟨h1, h2⟩ := maxI_ge r (if m < y then y else m)
    unfold maxI
    refine ⟨?_, fun x h => ?_⟩
    · split at h1 <;> split <;> omega
    · rcases List.mem_cons.mp h with e | e
      · subst e
        split at h1 <;> split <;> omega
      · exact h2 x e
theorem maxI_mem : ∀ (l : List Int) (m : Int), maxI m l = m ∨ maxI m l ∈ l
  | [], m => .inl rfl
  | y :: r, m => by
    unfold maxI
    rcases maxI_mem r (if m < y then y else m) with h | h
    · rw [h]
      split
      · exact .inr List.mem_cons_self
      · exact .inl rfl
    · exact .inr (List.mem_cons_of_mem _ h)
theorem minI_le : ∀ (l : List Int) (m : Int), minI m l ≤ m ∧ ∀ x ∈ l, minI m l ≤ x
  | [], m => ⟨Int.le_refl m, fun x h => by cases h⟩
  | y :: r, m => by
    obtain ⟨h1, h2⟩ := minI_le r (if y < m then y else m)
    unfold minI
    refine ⟨?_, fun x h => ?_⟩
    · split at h1 <;> split <;> omega
    · rcases List.mem_cons.mp h with e | e
      · subst e
        split at h1 <;> split <;> omega
      · exact h2 x e
theorem minI_mem : ∀ (l : List Int) (m : Int), minI m l = m ∨ minI m l ∈ l
  | [], m => .inl rfl
  | y :: r, m => by
    unfold minI
    rcases minI_mem r (if y < m then y else m) with h | h
    · rw [h]
      split
      · exact .inr List.mem_cons_self
      · exact .inl rfl
    · exact .inr (List.mem_cons_of_mem _ h)
def gMax : List D → Option RV
  | [.lst ds] => match intsO ds with
    | some (n :: ns) => some (.im (.int (maxI n ns)))
    | _ => none
  | _ => none
def gMin : List D → Option RV
  | [.lst ds] => match intsO ds with
    | some (n :: ns) => some (.im (.int (minI n ns)))
    | _ => none
  | _ => none
theorem cb_max : CbOk M (rMax M.K) gMax := by
  intro F H vs ds rv Q sub hv hg k
  unfold gMax at hg
  split at hg
  · split at hg
    · rename_i es n ns hi
      cases hg
      obtain ⟨v, rfl, a, ws, e, h1, r⟩ := vws1 hv
      subst e
      rw [intsO_eq hi] at r
      rw [reps_ints r] at h1
      refine ⟨a, n :: ns, rfl, .inl (.inl h1), Nat.succ_pos _, fun m hm hle => ?_⟩
      obtain ⟨g1, g2⟩ := maxI_ge ns n
      have e : m = maxI n ns := by
        have : m ≤ maxI n ns := by
          rcases List.mem_cons.mp hm with e | e
          · rw [e]
            exact g1
          · exact g2 m e
        have : maxI n ns ≤ m := by
          rcases maxI_mem ns n with e | e
          · rw [e]
            exact hle n List.mem_cons_self
          · exact hle _ (List.mem_cons_of_mem _ e)
        omega
      rw [e]
      exact k _ _ _ (Alc.refl sub) RvNew.int
    · cases hg
  · cases hg
theorem cb_min : CbOk M (rMin M.K) gMin := by
  intro F H vs ds rv Q sub hv hg k
  unfold gMin at hg
  split at hg
  · split at hg
    · rename_i es n ns hi
      cases hg
      obtain ⟨v, rfl, a, ws, e, h1, r⟩ := vws1 hv
      subst e
      rw [intsO_eq hi] at r
      rw [reps_ints r] at h1
      refine ⟨a, n :: ns, rfl, .inl (.inl h1), Nat.succ_pos _, fun m hm hle => ?_⟩
      obtain ⟨g1, g2⟩ := minI_le ns n
      have e : m = minI n ns := by
        have : minI n ns ≤ m := by
          rcases List.mem_cons.mp hm with e | e
          · rw [e]
            exact g1
          · exact g2 m e
        have : m ≤ minI n ns := by
          rcases minI_mem ns n with e | e
          · rw [e]
            exact hle n List.mem_cons_self
          · exact hle _ (List.mem_cons_of_mem _ e)
        omega
      rw [e]
      exact k _ _ _ (Alc.refl sub) RvNew.int
    · cases hg
  · cases hg
theorem de_maxF (C : CxD P w base M N sc j X W) (h : GlOk sc "max") (hm : M.mg "max" = none) (ha : DV X M W [a] mv) (he : starEach [a] X.env = (false, eval a X.env) :: starEach [] X.env := by rfl) : DE X M W (.Call (.Name "max" p) [a] [] pos) (dCb gMax mv) := de_cbF C (cr_max C.cm) (C.hK ▸ cb_max) (by decide +kernel) h hm ha he
theorem de_minF (C : CxD P w base M N sc j X W) (h : GlOk sc "min") (hm : M.mg "min" = none) (ha : DV X M W [a] mv) (he : starEach [a] X.env = (false, eval a X.env) :: starEach [] X.env := by rfl) : DE X M W (.Call (.Name "min" p) [a] [] pos) (dCb gMin mv) := de_cbF C (cr_min C.cm) (C.hK ▸ cb_min) (by decide +kernel) h hm ha he
/-! ### insert -/
def rInsert : V → List V → Hp → VK → Prop := fun x vs H Q => ∃ (l : Addr) (xs : List V) (i : Int) (y : V), x = .ref l ∧ vs = [.int i, y] ∧ H l = some (.lst xs) ∧ xs.length < sizeLine ∧ 0 ≤ i ∧ i < 2 ^ 63 ∧
    Q .non (upd H l (.lst (xs.take i.toNat ++ [y] ++ xs.drop i.toNat)))
def gInsert (ds xs : List D) : Option (D × List D) := match xs with
  | [.int i, d] => if (decide (ds.length < 1000000) && decide (0 ≤ i) && decide (i < 1000000)) = true then some (.non, ds.take i.toNat ++ [d] ++ ds.drop i.toNat) else none
  | _ => none
theorem lm_insert : LmOk M rInsert gInsert := by
  intro F H x vs us ds xs d es Q hx r1 r2 hg k
  unfold gInsert at hg
  split at hg
  · obtain ⟨hc, e⟩ := some_ite hg
    cases e
    simp only [Bool.and_eq_true, decide_eq_true_eq] at hc
    obtain ⟨⟨c1, c2⟩, c3⟩ := hc
    cases r2 with
    | cons r3 r4 =>
      cases r3
      cases r4 with
      | cons r5 r6 =>
        cases r6
        exact ⟨x, vs, _, _, rfl, rfl, hx, by rw [r1.length]; exact szlt c1, c2, by omega, k _ _ .non (((r1.take _).append (.cons r5 .nil)).append (r1.drop _))⟩
  · cases hg
/-! ### a tuple, many times -/
def repTD : D → D → Option RV
  | .tup ds, .int k => if (decide (2 ≤ k) && decide (k ≤ 1000) && decide (ds.length ≤ 1000) && !ds.isEmpty) = true then some (.im (.tup (List.replicate k.toNat ds).flatten)) else none
  | _, _ => none
theorem o2_repT : Op2 M (rRepT M.K) repTD := by
  intro F H x y d e rv Q sub hx hy hg k
  unfold repTD at hg
  split at hg
  · rename_i ds i
    obtain ⟨hc, e⟩ := some_ite hg
    subst e
    simp only [Bool.and_eq_true, decide_eq_true_eq] at hc
    obtain ⟨⟨⟨h1, h2⟩, h3⟩, h4⟩ := hc
    obtain ⟨a, vs, e1, h5, r1⟩ := vw_tup hx
    refine ⟨a, i, vs, e1, vw_int hy, sub.sqT h5, ?_, h1, h2, by rw [r1.length]; exact h3, fun p hp => new_tup sub (reps_rep r1 _) k hp⟩
    intro z
    subst z
    cases r1
    cases h4
  · cases hg
theorem de_repT (hK : M.K = X.K) (ha : DE X M W a ma) (hb : DE X M W b mb) : DE X M W (.BinOp a .Mult b pos) (dOp2 repTD ma mb) := de_tOp ha hb (r := rRepT X.K) (hK ▸ o2_repT) fun ta tb p q => pe_op op_repT p q
end
end DL

/- part -/
set_option Elab.async false
set_option linter.all false
set_option maxRecDepth 100000
set_option maxHeartbeats 1000000
namespace DL
open PySem PySem.Spec PyProof.Rows L2
section
variable {M : Mx} {W : WX} {X : Cx} {F H F' H' F1 H1 H0 : Hp} {σ : L2.St} {ρ ρ1 : SE}
variable {P : Program} {w : World} {base : Heap} {N : List Str} {sc : Scope} {j : Nat}
variable {a b c e : Expr} {ma mb mc m : DM RV} {es : List Expr} {pos p p2 q : Pos} {mv : DM (List D)}
/-! ### list(range(a, b)) -/
def rng2D : D → D → Option RV
  | .int i, .int k => if (decide (-1000000 ≤ i) && decide (i ≤ 1000000) && decide (-1000000 ≤ k) && decide (k ≤ 1000000)) = true then some (.ow (.ls ((List.range (k - i).toNat).map fun (n : Nat) => D.int (i + n)))) else none
  | _, _ => none
def rRgl : R2 := fun x y H Q => ∃ i k, x = .int i ∧ y = .int k ∧ RgOk i k ∧ ∀ q, H q = none → Q (.ref q) (upd H q (.lst (rgV i k)))
theorem reps_rg (i k : Int) : Reps M F (rgV i k) ((List.range (k - i).toNat).map fun (n : Nat) => D.int (i + n)) := by
  unfold rgV
  induction List.range (k - i).toNat with
  | nil => exact .nil
  | cons n ns ih => exact .cons (.int _) ih
theorem o2_rg : Op2 M rRgl rng2D := by
  intro F H x y d e rv Q sub hx hy hg k
  unfold rng2D at hg
  split at hg
  · obtain ⟨hc, e⟩ := some_ite hg
    subst e
    simp only [Bool.and_eq_true, decide_eq_true_eq] at hc
    obtain ⟨⟨⟨c1, c2⟩, c3⟩, c4⟩ := hc
    exact ⟨_, _, vw_int hx, vw_int hy, ⟨by omega, by omega, by omega, by omega, by omega⟩, fun q hq => new_lst sub (reps_rg _ _) k hq⟩
  · cases hg
theorem de_listRg2 (C : CxD P w base M N sc j X W) (h : GlOk sc "list") (hm : M.mg "list" = none) (h2 : GlOk sc "range") (hm2 : M.mg "range" = none) (ha : DE X M W a ma) (hb : DE X M W b mb)
    (na : starEach [a, b] X.env = (false, eval a X.env) :: starEach [b] X.env := by rfl) (nb : starEach [b] X.env = (false, eval b X.env) :: starEach [] X.env := by rfl) (hp : (backTo q (starEach [b] X.env)).any (·.1) = false := by rfl) (nc : starEach [.Call (.Name "range" p2) [a, b] [] q] X.env = (false, eval (.Call (.Name "range" p2) [a, b] [] q) X.env) :: starEach [] X.env := by rfl) :
    DE X M W (.Call (.Name "list" p) [.Call (.Name "range" p2) [a, b] [] q] [] pos) (dOp2 rng2D ma mb) :=
  de_tOp ha hb (r := rRgl) o2_rg fun ta tb z1 z2 => pe_listRg C.cm (C.glo h) (by rw [← C.hM]; exact hm) (prg_2 (C.glo h2) (by rw [← C.hM]; exact hm2) z1 z2 na nb hp) nc
def rng1D : D → Option RV := rng2D (.int 0)
def rRgl1 (x : V) (H : Hp) (Q : VK) : Prop := ∃ k, x = .int k ∧ RgOk 0 k ∧ ∀ q, H q = none → Q (.ref q) (upd H q (.lst (rgV 0 k)))
theorem o1_rg : Op1 M rRgl1 rng1D := by
  intro F H x d rv Q sub hx hg k
  obtain ⟨i, n, e, z1, z2, z3⟩ := o2_rg F H (.int 0) x (.int 0) d rv Q sub (.int 0) hx hg k
  cases e
  exact ⟨n, z1, z2, z3⟩
theorem de_listRg1 (C : CxD P w base M N sc j X W) (h : GlOk sc "list") (hm : M.mg "list" = none) (h2 : GlOk sc "range") (hm2 : M.mg "range" = none) (ha : DE X M W a ma)
    (na : starEach [a] X.env = (false, eval a X.env) :: starEach [] X.env := by rfl) (nc : starEach [.Call (.Name "range" p2) [a] [] q] X.env = (false, eval (.Call (.Name "range" p2) [a] [] q) X.env) :: starEach [] X.env := by rfl) :
    DE X M W (.Call (.Name "list" p) [.Call (.Name "range" p2) [a] [] q] [] pos) (dOp1 rng1D ma) :=
  de_tUn ha (r := rRgl1) o1_rg fun ta z => pe_listRg C.cm (C.glo h) (by rw [← C.hM]; exact hm) (prg_1 (C.glo h2) (by rw [← C.hM]; exact hm2) z na) nc
/-! ### len(set(xs)) of whole numbers -/
def dedI (ns : List Int) : List Int := ns.foldl step_dedup []
theorem firstMet_all (ns : List Int) : firstMet (fun i => ns.getD i 0) ns.length = dedI ns := by
  unfold firstMet dedI
  congr 1
  refine List.ext_getElem (by simp) fun i h1 h2 => ?_
  rw [List.getElem_map, List.getElem_range, List.getD_eq_getElem?_getD, List.getElem?_eq_getElem h2]
  rfl
def rLs (K : PySem.W.Frag) (x : V) (H : Hp) (Q : VK) : Prop := ∃ (l : Addr) (ns : List Int), x = .ref l ∧ SqL K H l (ns.map V.int) ∧ ns.length ≤ 4000 ∧ Q (.int ((dedI ns).length : Nat)) H
theorem pe_lenSetA {ta : TE} (hg : Gl X "len") (hm : X.mg "len" = none) (hg2 : Gl X "set") (hm2 : X.mg "set" = none) (ha : PE X a ta) (hc : X.calm = true := by rfl)
    (na : starEach [a] X.env = (false, eval a X.env) :: starEach [] X.env := by rfl) : PE X (.Call (.Name "len" p) [.Call (.Name "set" p2) [a] [] q] [] pos) (tUn (rLs X.K) ta) := by
  refine ⟨fun pins s σ H Q I h => ?_⟩
  refine Call_ (ld_blt I hg hm boot_len ?_)
  refine PyProof.Rows.callWith_builtin1 (PyProof.Rows.args_cons ?_ rfl) rfl rfl
  refine Call_ (ld_blt I hg2 hm2 boot_set ?_)
  refine PyProof.Rows.callWith_type1 (PyProof.Rows.args_cons (thn (ha.run pins s σ H _ I h) fun v s1 ⟨x, G, J, rx, want⟩ => PyProof.Rows.args_nil ?_) na) na rfl
  obtain ⟨l, ns, rfl, sq, few, want⟩ := want
  cases rx
  obtain ⟨its, r, pl, fits⟩ := J.list sq
  have size : its.toArray.size = ns.length := by rw [List.size_toArray, ← r.length, List.length_map]
  refine call_set_list (J.ok.hd hc) pl.isList (by simpa using RZ.intsAre_vals r) (by rw [size]; unfold scanBound; omega) fun h' tk S keep => ?_
  refine PyProof.Rows.args_nil ?_
  rw [size, firstMet_all] at S
  obtain ⟨o, es, ep, t, at_, ex, da, _, _, _, fi, len⟩ := S
  have J2 : Inv X pins σ G { s1 with heap := h', toks := tk } := J.kept fun b o e => keep b o (Heap.lt_size e) e
  have le : (dedI ns).length ≤ ns.length := by
    rw [← firstMet_all]
    exact firstMet_length_le _ _
  exact call_len_set at_ ex da fi (by rw [len] <;> omega) ⟨.int (dedI ns).length, G, J2.tok _, ⟨_, by rw [len]⟩, want⟩
def lenSetD : D → Option RV
  | .lst ds => match intsO ds with
    | some ns => if ns.length ≤ 4000 then some (.im (.int (dedI ns).length)) else none
    | none => none
  | _ => none
theorem o1_ls : Op1 M (rLs M.K) lenSetD := by
  intro F H x d rv Q sub hx hg k
  unfold lenSetD at hg
  split at hg
  · split at hg
    · rename_i es ns hi
      obtain ⟨hc, e⟩ := some_ite hg
      subst e
      obtain ⟨l, h1, h2 | h2⟩ := vw_ints sub hx (.inl rfl) hi
      · exact ⟨l, ns, h1, h2, hc, k _ _ _ (Alc.refl sub) RvNew.int⟩
      · obtain ⟨a, vs, e1, h3, r⟩ := hx
        rw [intsO_eq hi] at r
        rw [reps_ints r] at h3
        exact ⟨a, ns, e1, .inl (.inl h3), hc, k _ _ _ (Alc.refl sub) RvNew.int⟩
    · cases hg
  · cases hg
theorem de_lenSetF (C : CxD P w base M N sc j X W) (h : GlOk sc "len") (hm : M.mg "len" = none) (h2 : GlOk sc "set") (hm2 : M.mg "set" = none) (ha : DE X M W a ma)
    (na : starEach [a] X.env = (false, eval a X.env) :: starEach [] X.env := by rfl) : DE X M W (.Call (.Name "len" p) [.Call (.Name "set" p2) [a] [] q] [] pos) (dOp1 lenSetD ma) :=
  de_tUn ha (r := rLs X.K) (C.hK ▸ o1_ls) fun ta z => pe_lenSetA (C.glo h) (by rw [← C.hM]; exact hm) (C.glo h2) (by rw [← C.hM]; exact hm2) z C.cm na
end
end DL

/- part -/
set_option Elab.async false
set_option linter.all false
set_option maxRecDepth 100000
set_option maxHeartbeats 1000000
namespace DL
open PySem PySem.Spec PyProof.Rows L2
/-! ### own classes by context -/
/-- a method's def stands at f -/
structure MDefAt (M : Mx) (c m q : Str) (st : Stmt) (ps : List Str) where
  f : Addr
  fd : FuncData
  cl : Cls M.K (M.ca c)
  me : Meth M.K (M.ca c) m f
  b : Binds M.K fd ps []
  fu : Fun M.K m q st f fd
/-- a class with its __init__ -/
structure IDefAt (M : Mx) (c q : Str) (st : Stmt) (ps : List Str) where
  f : Addr
  fd : FuncData
  g : M.mg c = some (.ref (M.ca c))
  cl : Cls M.K (M.ca c)
  mkr : Mk M.K (M.ca c) f
  b : Binds M.K fd ps []
  fu : Fun M.K "__init__" q st f fd
section
variable {P : Program} {w : World} {base : Heap} {N : List Str} {sc : Scope} {j : Nat}
variable {M : Mx} {W : WX} {X : Cx} {F H F' H' F1 H1 F2 H2 H0 : Hp} {σ σ1 : L2.St} {ρ ρ1 ρ2 : SE}
variable {a b c e o : Expr} {ma mb m mo : DM RV} {es : List Expr} {ms : DM (List AV)} {pos p p' apos : Pos} {x f : Str}
def MDefAt.cal {k n : Nat} {c m q : Str} {st : Stmt} {ps : List Str} {mm : SE → R RV} (d : MDefAt M c m q st ps) (ok : FnOk P w M.K M.mg base (L2.CX P w) k d.f d.fd ps (spD M n mm)) : MCal P w base M c m k n mm := ⟨d.f, d.fd, ps, d.cl, d.me, d.b, ok⟩
def IDefAt.cal {k n : Nat} {c q : Str} {st : Stmt} {ps : List Str} {mm : SE → R RV} (d : IDefAt M c q st ps) (ok : FnOk P w M.K M.mg base (L2.CX P w) k d.f d.fd ps (spD M n mm)) : ICal P w base M c k n mm := ⟨d.f, d.fd, ps, d.g, d.cl, d.mkr, d.b, ok⟩
theorem ds_fldC {c : Str} {ns : List Str} (C : CxD P w base M N sc j X W) (i : Nat) (h : NameOk sc x) (Cl : ClsAt M c ns) (hf : f ∈ ns) (he : DE X M W e m) (hi : N[i]? = some x := by rfl)
    (hs : swapsWith e (some (.Attribute (.Name x p) f p')) pos.line X.env = pure false := by rfl) : DS X M W (.Assign [.Attribute (.Name x p) f p'] e pos) (sFldD i c f m) :=
  ds_fld (C.ix hi) (by rw [C.hs]; exact h.vis) h.nd h.nc C.hK Cl hf he hs
end
theorem clsAt {M : Mx} {c : Str} {C : Addr} {ns : List Str} (g : M.mg c = some (.ref C)) (hc : M.ca c = C) (cl : Cls M.K C) (no : ∀ f ∈ ns, NoAttr M.K C f) : ClsAt M c ns := by
  subst hc
  exact ⟨g, cl, no⟩
def mdefAt {M : Mx} {c m q : Str} {st : Stmt} {ps : List Str} {C f : Addr} {fd : FuncData} (hc : M.ca c = C) (cl : Cls M.K C) (me : Meth M.K C m f) (b : Binds M.K fd ps []) (fu : Fun M.K m q st f fd) : MDefAt M c m q st ps := ⟨f, fd, hc ▸ cl, hc ▸ me, b, fu⟩
def idefAt {M : Mx} {c q : Str} {st : Stmt} {ps : List Str} {C f : Addr} {fd : FuncData} (g : M.mg c = some (.ref C)) (hc : M.ca c = C) (cl : Cls M.K C) (mk : Mk M.K C f) (b : Binds M.K fd ps []) (fu : Fun M.K "__init__" q st f fd) : IDefAt M c q st ps := ⟨f, fd, by rw [hc]; exact g, hc ▸ cl, hc ▸ mk, b, fu⟩
end DL

/- part -/
set_option Elab.async false
set_option linter.all false
set_option maxRecDepth 100000
set_option maxHeartbeats 1000000
namespace DL
open PySem PySem.Spec PyProof.Rows L2
/-! ### reckoning forward: what a reading gives satisfies Q, what it raises E -/
/-- what is wished for; it stands as an instance, so that simp leaves it alone -/
class Cont (α : Type) where
  go : α → SE → Prop
  stop : Exc → SE → Prop
def WpD {α : Type} (r : R α) (c : Cont α) : Prop := match r with
  | .bad => False
  | .ok a ρ => c.go a ρ
  | .ex e ρ => c.stop e ρ
structure Wp {α : Type} (r : R α) [c : Cont α] : Prop where
  h : WpD r c
abbrev WP {α : Type} (r : R α) (Q : α → SE → Prop) (E : Exc → SE → Prop) : Prop := @Wp α r ⟨Q, E⟩
abbrev noX : Exc → SE → Prop := fun _ _ => False
theorem wp_D {α : Type} {r : R α} {c : Cont α} : @Wp α r c = WpD r c := propext ⟨fun h => h.h, fun h => ⟨h⟩⟩
theorem wpI {α : Type} {r : R α} {c : Cont α} (h : WpD r c) : @Wp α r c := Eq.mpr wp_D h
theorem wpE {α : Type} {r : R α} {c : Cont α} (h : @Wp α r c) : WpD r c := Eq.mp wp_D h
section
variable {α β : Type} {a : α} {r : R α} {ρ ρ1 ρ2 : SE} {Q Q' : α → SE → Prop} {E E' : Exc → SE → Prop} {e : Exc}
@[simp ↓] theorem wp_open : WP r Q E = @Wp α r ⟨Q, E⟩ := rfl
@[simp ↓, simp] theorem wp_ok : WP (.ok a ρ) Q E = Q a ρ := wp_D
@[simp ↓, simp] theorem wp_ex : WP (.ex e ρ : R α) Q E = E e ρ := wp_D
@[simp ↓, simp] theorem wp_bad : WP (.bad : R α) Q E = False := wp_D
@[simp ↓, simp] theorem wp_bind {f : α → SE → R β} {Q : β → SE → Prop} : WP (r.bind f) Q E = WP r (fun a ρ => WP (f a ρ) Q E) E := by
  cases r with
  | bad => exact wp_bad.trans wp_bad.symm
  | ok a ρ => exact (wp_ok (Q := fun a ρ => WP (f a ρ) Q E) (E := E) (a := a) (ρ := ρ)).symm
  | ex e ρ => exact wp_ex.trans (wp_ex (Q := fun a ρ => WP (f a ρ) Q E)).symm
theorem Wp.mono (h : WP r Q E) (h1 : ∀ a ρ, Q a ρ → Q' a ρ) (h2 : ∀ e ρ, E e ρ → E' e ρ := by intro _ _ z; exact z) : WP r Q' E' := by
  cases r with
  | bad => exact (wp_bad ▸ h : False).elim
  | ok a ρ =>
    rw [wp_ok] at h ⊢
    exact h1 a ρ h
  | ex e ρ =>
    rw [wp_ex] at h ⊢
    exact h2 e ρ h
theorem Wp.of (h : r = .ok a ρ) (q : Q a ρ) : WP r Q E := by
  rw [h, wp_ok]
  exact q
theorem Wp.ofX (h : r = .ex e ρ) (q : E e ρ) : WP r Q E := by
  rw [h, wp_ex]
  exact q
theorem Wp.eq {x : α} {ρ' : SE} (h : WP r (fun a ρ => a = x ∧ ρ = ρ') noX) : r = .ok x ρ' := by
  cases r with
  | bad => exact False.elim (wpE h)
  | ok a ρ =>
    have h : a = x ∧ ρ = ρ' := wpE h
    obtain ⟨h1, h2⟩ := h
    rw [h1, h2]
  | ex e ρ => exact False.elim (wpE h)
theorem Wp.some (h : WP r Q noX) : ∃ a ρ, r = .ok a ρ ∧ Q a ρ := by
  cases r with
  | bad => exact False.elim (wpE h)
  | ok a ρ => exact ⟨a, ρ, rfl, wpE h⟩
  | ex e ρ => exact False.elim (wpE h)
theorem wp_iff {c : Prop} [Decidable c] {r s : R α} (h1 : c → WP r Q E) (h2 : ¬ c → WP s Q E) : WP (if c then r else s) Q E := by
  by_cases h : c
  · rw [if_pos h]
    exact h1 h
  · rw [if_neg h]
    exact h2 h
end
/-! .. calls -/
def retR (r : R RV) (ρ : SE) : R RV := match r with
  | .bad => .bad
  | .ok r _ => if notBo r = true then .ok r ρ else .bad
  | .ex e _ => .ex e ρ
def retIo (r : R RV) (j i : Nat) (ρ : SE) : R RV := match r with
  | .bad => .bad
  | .ok r svs => if notBo r = true then (match backIo ρ j i svs with
    | some ρ2 => .ok r ρ2
    | none => .bad) else .bad
  | .ex e svs => (match backIo ρ j i svs with
    | some ρ2 => .ex e ρ2
    | none => .bad)
section
variable {m : SE → R RV} {as : List AV} {ρ ρ1 : SE} {r : R RV} {Q : RV → SE → Prop} {E : Exc → SE → Prop} {d e f g : D} {i j : Nat}
theorem callR_no (h : iosOf 0 as = []) : callR m as ρ = retR (m (as.map (argSV ρ))) ρ := by
  unfold callR
  rw [h]
  rfl
theorem callR_io (h : iosOf 0 as = [(j, i)]) : callR m as ρ = retIo (m (as.map (argSV ρ))) j i ρ := by
  unfold callR
  rw [h]
  rfl
@[simp] theorem argSV_io {io : Bool} {oc : OC} (h : ρ[i]? = some (.ow io oc)) : argSV ρ (.io i) = .ow true oc := by
  show (match ρ[i]? with
    | some (.ow _ ds) => SV.ow true ds
    | _ => .no) = _
  rw [h]
def ioSV : Option SV → SV
  | some (.ow _ ds) => .ow true ds
  | _ => .no
@[simp] theorem ioSV_ow {io : Bool} {oc : OC} : ioSV (some (.ow io oc)) = .ow true oc := rfl
theorem argSV_eq : argSV ρ (.io i) = ioSV ρ[i]? := by
  show (match ρ[i]? with
    | some (.ow _ ds) => SV.ow true ds
    | _ => .no) = _
  cases ρ[i]? with
  | none => rfl
  | some x => cases x <;> rfl
@[simp] theorem callR_0 : callR m [] ρ = retR (m []) ρ := callR_no rfl
@[simp] theorem callR_1 : callR m [.d d] ρ = retR (m [.im d]) ρ := callR_no rfl
@[simp] theorem callR_2 : callR m [.d d, .d e] ρ = retR (m [.im d, .im e]) ρ := callR_no rfl
@[simp] theorem callR_3 : callR m [.d d, .d e, .d f] ρ = retR (m [.im d, .im e, .im f]) ρ := callR_no rfl
@[simp] theorem callR_4 : callR m [.d d, .d e, .d f, .d g] ρ = retR (m [.im d, .im e, .im f, .im g]) ρ := callR_no rfl
@[simp] theorem callR_io1 : callR m [.io i] ρ = retIo (m [ioSV ρ[i]?]) 0 i ρ := by
  rw [← argSV_eq]
  exact callR_io rfl
@[simp] theorem callR_io2 : callR m [.io i, .d d] ρ = retIo (m [ioSV ρ[i]?, .im d]) 0 i ρ := by
  rw [← argSV_eq]
  exact callR_io rfl
@[simp] theorem callR_io3 : callR m [.io i, .d d, .d e] ρ = retIo (m [ioSV ρ[i]?, .im d, .im e]) 0 i ρ := by
  rw [← argSV_eq]
  exact callR_io rfl
@[simp] theorem callR_io4 : callR m [.io i, .d d, .d e, .d f] ρ = retIo (m [ioSV ρ[i]?, .im d, .im e, .im f]) 0 i ρ := by
  rw [← argSV_eq]
  exact callR_io rfl
theorem retR_okA {x : RV} : retR (.ok x ρ1) ρ = if notBo x = true then .ok x ρ else .bad := rfl
@[simp ↓, simp] theorem wp_retR : WP (retR r ρ) Q E = WP r (fun x _ => notBo x = true ∧ Q x ρ) (fun e _ => E e ρ) := by
  cases r with
  | bad => exact wp_bad.trans wp_bad.symm
  | ex e ρ1 => exact wp_ex.trans (wp_ex (Q := fun x _ => notBo x = true ∧ Q x ρ) (E := fun e _ => E e ρ)).symm
  | ok x ρ1 =>
    rw [retR_okA, wp_ok]
    cases h : notBo x with
    | true => simp
    | false => simp
/-- the caller's slots behind a call with a slot's own list -/
def bkIo (ρ : SE) (j i : Nat) (svs : SE) : SE := (backIo ρ j i svs).getD []
@[simp ↓, simp] theorem wp_retIo : WP (retIo r j i ρ) Q E = WP r (fun x svs => notBo x = true ∧ ∃ ρ2, backIo ρ j i svs = some ρ2 ∧ Q x ρ2) (fun e svs => ∃ ρ2, backIo ρ j i svs = some ρ2 ∧ E e ρ2) := by
  cases r with
  | bad => exact wp_bad.trans wp_bad.symm
  | ex e ρ1 =>
    rw [wp_ex]
    show WP (match backIo ρ j i ρ1 with
      | some ρ2 => (.ex e ρ2 : R RV)
      | none => .bad) Q E = ∃ ρ2, backIo ρ j i ρ1 = some ρ2 ∧ E e ρ2
    cases backIo ρ j i ρ1 <;> simp
  | ok x ρ1 =>
    rw [wp_ok]
    show WP (if notBo x = true then (match backIo ρ j i ρ1 with
      | some ρ2 => (.ok x ρ2 : R RV)
      | none => .bad) else .bad) Q E = (notBo x = true ∧ ∃ ρ2, backIo ρ j i ρ1 = some ρ2 ∧ Q x ρ2)
    cases notBo x with
    | false => simp
    | true => cases backIo ρ j i ρ1 <;> simp
theorem backIo_eq {oc oc2 : OC} {io : Bool} {svs : SE} (h1 : svs[j]? = some (.ow true oc)) (h2 : ρ[i]? = some (.ow io oc2)) : backIo ρ j i svs = some (ρ.set i (.ow io oc)) := by
  unfold backIo
  rw [h1, h2]
def bk2 (ρ : SE) (i : Nat) : Option SV → Option SV → Option SE
  | some (.ow true ds), some (.ow io _) => some (ρ.set i (.ow io ds))
  | _, _ => none
@[simp] theorem backIo_bk {svs : SE} : backIo ρ j i svs = bk2 ρ i svs[j]? ρ[i]? := rfl
@[simp] theorem bk2_ow {oc oc2 : OC} {io : Bool} : bk2 ρ i (some (.ow true oc)) (some (.ow io oc2)) = some (ρ.set i (.ow io oc)) := rfl
/-! .. defs -/
theorem wp_fn {nN : Nat} {mb : DM Fl} {svs : SE} (h : WP (mb (svs ++ List.replicate (nN - svs.length) .no)) (fun f ρ => WP (mRet svs f ρ) Q E) (fun e ρ => E e (outs svs ρ))) : WP (mFn nN mb svs) Q E := by
  unfold mFn
  cases e : mb (svs ++ List.replicate (nN - svs.length) .no) with
  | bad =>
    rw [e] at h
    exact False.elim (wpE h)
  | ok f ρ =>
    rw [e, wp_ok] at h
    exact h
  | ex x ρ =>
    rw [e] at h
    have h : E x (outs svs ρ) := wpE h
    exact wpI h
/-! .. loops -/
def loopQ (Q : Fl → SE → Prop) (I : SE → Prop) : Fl → SE → Prop
  | .nx, ρ => I ρ
  | .ct, ρ => I ρ
  | .bk, ρ => Q .nx ρ
  | .rt r, ρ => Q (.rt r) ρ
@[simp] theorem loopQ_nx {Q : Fl → SE → Prop} {I : SE → Prop} : loopQ Q I .nx ρ = I ρ := rfl
@[simp] theorem loopQ_ct {Q : Fl → SE → Prop} {I : SE → Prop} : loopQ Q I .ct ρ = I ρ := rfl
@[simp] theorem loopQ_bk {Q : Fl → SE → Prop} {I : SE → Prop} : loopQ Q I .bk ρ = Q .nx ρ := rfl
@[simp] theorem loopQ_rt {Q : Fl → SE → Prop} {I : SE → Prop} {r : RV} : loopQ Q I (.rt r) ρ = Q (.rt r) ρ := rfl
theorem wp_floop {gm : D → SE → R Unit} {b : DM Fl} {Q : Fl → SE → Prop} {ds : List D} (I : Nat → SE → Prop) (h0 : I 0 ρ) (hs : ∀ i d ρ, ds[i]? = some d → I i ρ → WP (gm d ρ) (fun _ ρ1 => WP (b ρ1) (loopQ Q (I (i + 1))) E) E) (hd : ∀ ρ, I ds.length ρ → Q .nx ρ) : WP (floop gm b ds ρ) Q E := by
  have main : ∀ (n : Nat) (ρ : SE), n ≤ ds.length → I n ρ → WP (floop gm b (ds.drop n) ρ) Q E := by
    intro n
    induction hk : ds.length - n generalizing n with
    | zero =>
      intro ρ hn h
      have e : n = ds.length := by omega
      subst e
      rw [List.drop_length]
      exact wpI (hd ρ h)
    | succ k ih =>
      intro ρ hn h
      have lt : n < ds.length := by omega
      rw [List.drop_eq_getElem_cons lt]
      have s1 := hs n ds[n] ρ (List.getElem?_eq_getElem lt) h
      unfold floop
      rw [wp_bind]
      refine s1.mono fun _ ρ1 s2 => ?_
      rw [wp_bind]
      refine s2.mono fun f ρ2 s3 => ?_
      cases f with
      | nx => exact ih (n + 1) (by omega) ρ2 (by omega) s3
      | ct => exact ih (n + 1) (by omega) ρ2 (by omega) s3
      | bk => exact wpI s3
      | rt x => exact wpI s3
  have := main 0 ρ (Nat.zero_le _) h0
  rwa [List.drop_zero] at this
theorem wp_cloop {vs : List Nat} {gm : D → SE → R Unit} {mt : DM Bool} {me : DM RV} {Q : List D → SE → Prop} {ds : List D} (I : Nat → List D → SE → Prop) (hz : ds.length ≤ 1000000) (h0 : I 0 [] ρ) (hw : ∀ i acc ρ, I i acc ρ → noOw ρ vs = true ∧ acc.length ≤ i)
    (hs : ∀ i d acc ρ, ds[i]? = some d → I i acc ρ → WP (cTurn vs gm mt me d ρ) (fun o ρ1 => I (i + 1) (addO acc o) ρ1) E) (hd : ∀ acc ρ, I ds.length acc ρ → Q acc ρ) : WP (cLoop vs gm mt me ds [] ρ) Q E := by
  have main : ∀ (n : Nat) (acc : List D) (ρ : SE), n ≤ ds.length → I n acc ρ → WP (cLoop vs gm mt me (ds.drop n) acc ρ) Q E := by
    intro n
    induction hk : ds.length - n generalizing n with
    | zero =>
      intro acc ρ hn h
      have e : n = ds.length := by omega
      subst e
      rw [List.drop_length]
      exact wpI (hd acc ρ h)
    | succ k ih =>
      intro acc ρ hn h
      have lt : n < ds.length := by omega
      rw [List.drop_eq_getElem_cons lt]
      obtain ⟨w1, w2⟩ := hw n acc ρ h
      have s1 := hs n ds[n] acc ρ (List.getElem?_eq_getElem lt) h
      unfold cLoop
      rw [if_pos (by rw [w1]; simp; omega), wp_bind]
      exact s1.mono fun o ρ1 s2 => ih (n + 1) (by omega) _ ρ1 (by omega) s2
  have := main 0 [] ρ (Nat.zero_le _) h0
  rwa [List.drop_zero] at this
theorem wp_while {c : DM Bool} {b : DM Fl} {Q : Fl → SE → Prop} (I : Nat → SE → Prop) {n : Nat} (h0 : I n ρ) (hs : ∀ n ρ, I n ρ → WP (c ρ) (fun k ρ1 => if k = true then WP (b ρ1) (loopQ Q fun ρ2 => ∃ k, k < n ∧ I k ρ2) E else Q .nx ρ1) E) : WP (sWhile c b ρ) Q E := by
  induction n using Nat.strongRecOn generalizing ρ with
  | ind n ih =>
    have s1 := hs n ρ h0
    rw [sWhile_eq, wp_bind]
    refine s1.mono fun k ρ1 s2 => ?_
    cases k with
    | false => exact wpI s2
    | true =>
      rw [if_pos rfl] at s2 ⊢
      rw [wp_bind]
      refine s2.mono fun f ρ2 s3 => ?_
      cases f with
      | nx =>
        obtain ⟨k, hk, hi⟩ := s3
        exact ih k hk hi
      | ct =>
        obtain ⟨k, hk, hi⟩ := s3
        exact ih k hk hi
      | bk => exact wpI s3
      | rt x => exact wpI s3
end
/-! ### slots -/
/-- a slot that may be stored in -/
def Nio (sv : SV) : Prop := ∀ oc, sv ≠ .ow true oc
@[simp] theorem nio_no : Nio .no := fun _ z => by cases z
@[simp] theorem nio_im {d : D} : Nio (.im d) := fun _ z => by cases z
@[simp] theorem nio_ow {oc : OC} : Nio (.ow false oc) := fun _ z => by cases z
theorem stow_at {ρ : SE} {i : Nat} {x sv : SV} (e : ρ[i]? = some x) (h : Nio x) : stow ρ i sv = .ok () (ρ.set i sv) := by
  unfold stow
  rw [e]
  cases x with
  | no => rfl
  | im d => rfl
  | ow io oc =>
    cases io with
    | true => exact (h oc rfl).elim
    | false => rfl
section
variable {x0 x1 x2 x3 x4 x5 x6 x7 x8 x9 x10 x11 x12 x13 x14 x15 x16 x17 x18 x19 x20 sv : SV} {l : SE}
@[simp] theorem stow_0 (h : Nio x0) : stow (x0 :: l) 0 sv = .ok () (sv :: l) := stow_at rfl h
@[simp] theorem stow_1 (h : Nio x1) : stow (x0 :: x1 :: l) 1 sv = .ok () (x0 :: sv :: l) := stow_at rfl h
@[simp] theorem stow_2 (h : Nio x2) : stow (x0 :: x1 :: x2 :: l) 2 sv = .ok () (x0 :: x1 :: sv :: l) := stow_at rfl h
@[simp] theorem stow_3 (h : Nio x3) : stow (x0 :: x1 :: x2 :: x3 :: l) 3 sv = .ok () (x0 :: x1 :: x2 :: sv :: l) := stow_at rfl h
@[simp] theorem stow_4 (h : Nio x4) : stow (x0 :: x1 :: x2 :: x3 :: x4 :: l) 4 sv = .ok () (x0 :: x1 :: x2 :: x3 :: sv :: l) := stow_at rfl h
@[simp] theorem stow_5 (h : Nio x5) : stow (x0 :: x1 :: x2 :: x3 :: x4 :: x5 :: l) 5 sv = .ok () (x0 :: x1 :: x2 :: x3 :: x4 :: sv :: l) := stow_at rfl h
@[simp] theorem stow_6 (h : Nio x6) : stow (x0 :: x1 :: x2 :: x3 :: x4 :: x5 :: x6 :: l) 6 sv = .ok () (x0 :: x1 :: x2 :: x3 :: x4 :: x5 :: sv :: l) := stow_at rfl h
@[simp] theorem stow_7 (h : Nio x7) : stow (x0 :: x1 :: x2 :: x3 :: x4 :: x5 :: x6 :: x7 :: l) 7 sv = .ok () (x0 :: x1 :: x2 :: x3 :: x4 :: x5 :: x6 :: sv :: l) := stow_at rfl h
@[simp] theorem stow_8 (h : Nio x8) : stow (x0 :: x1 :: x2 :: x3 :: x4 :: x5 :: x6 :: x7 :: x8 :: l) 8 sv = .ok () (x0 :: x1 :: x2 :: x3 :: x4 :: x5 :: x6 :: x7 :: sv :: l) := stow_at rfl h
@[simp] theorem stow_9 (h : Nio x9) : stow (x0 :: x1 :: x2 :: x3 :: x4 :: x5 :: x6 :: x7 :: x8 :: x9 :: l) 9 sv = .ok () (x0 :: x1 :: x2 :: x3 :: x4 :: x5 :: x6 :: x7 :: x8 :: sv :: l) := stow_at rfl h
@[simp] theorem stow_10 (h : Nio x10) : stow (x0 :: x1 :: x2 :: x3 :: x4 :: x5 :: x6 :: x7 :: x8 :: x9 :: x10 :: l) 10 sv = .ok () (x0 :: x1 :: x2 :: x3 :: x4 :: x5 :: x6 :: x7 :: x8 :: x9 :: sv :: l) := stow_at rfl h
@[simp] theorem stow_11 (h : Nio x11) : stow (x0 :: x1 :: x2 :: x3 :: x4 :: x5 :: x6 :: x7 :: x8 :: x9 :: x10 :: x11 :: l) 11 sv = .ok () (x0 :: x1 :: x2 :: x3 :: x4 :: x5 :: x6 :: x7 :: x8 :: x9 :: x10 :: sv :: l) := stow_at rfl h
@[simp] theorem stow_12 (h : Nio x12) : stow (x0 :: x1 :: x2 :: x3 :: x4 :: x5 :: x6 :: x7 :: x8 :: x9 :: x10 :: x11 :: x12 :: l) 12 sv = .ok () (x0 :: x1 :: x2 :: x3 :: x4 :: x5 :: x6 :: x7 :: x8 :: x9 :: x10 :: x11 :: sv :: l) := stow_at rfl h
@[simp] theorem stow_13 (h : Nio x13) : stow (x0 :: x1 :: x2 :: x3 :: x4 :: x5 :: x6 :: x7 :: x8 :: x9 :: x10 :: x11 :: x12 :: x13 :: l) 13 sv = .ok () (x0 :: x1 :: x2 :: x3 :: x4 :: x5 :: x6 :: x7 :: x8 :: x9 :: x10 :: x11 :: x12 :: sv :: l) := stow_at rfl h
@[simp] theorem stow_14 (h : Nio x14) : stow (x0 :: x1 :: x2 :: x3 :: x4 :: x5 :: x6 :: x7 :: x8 :: x9 :: x10 :: x11 :: x12 :: x13 :: x14 :: l) 14 sv = .ok () (x0 :: x1 :: x2 :: x3 :: x4 :: x5 :: x6 :: x7 :: x8 :: x9 :: x10 :: x11 :: x12 :: x13 :: sv :: l) := stow_at rfl h
@[simp] theorem stow_15 (h : Nio x15) : stow (x0 :: x1 :: x2 :: x3 :: x4 :: x5 :: x6 :: x7 :: x8 :: x9 :: x10 :: x11 :: x12 :: x13 :: x14 :: x15 :: l) 15 sv = .ok () (x0 :: x1 :: x2 :: x3 :: x4 :: x5 :: x6 :: x7 :: x8 :: x9 :: x10 :: x11 :: x12 :: x13 :: x14 :: sv :: l) := stow_at rfl h
@[simp] theorem stow_16 (h : Nio x16) : stow (x0 :: x1 :: x2 :: x3 :: x4 :: x5 :: x6 :: x7 :: x8 :: x9 :: x10 :: x11 :: x12 :: x13 :: x14 :: x15 :: x16 :: l) 16 sv = .ok () (x0 :: x1 :: x2 :: x3 :: x4 :: x5 :: x6 :: x7 :: x8 :: x9 :: x10 :: x11 :: x12 :: x13 :: x14 :: x15 :: sv :: l) := stow_at rfl h
@[simp] theorem stow_17 (h : Nio x17) : stow (x0 :: x1 :: x2 :: x3 :: x4 :: x5 :: x6 :: x7 :: x8 :: x9 :: x10 :: x11 :: x12 :: x13 :: x14 :: x15 :: x16 :: x17 :: l) 17 sv = .ok () (x0 :: x1 :: x2 :: x3 :: x4 :: x5 :: x6 :: x7 :: x8 :: x9 :: x10 :: x11 :: x12 :: x13 :: x14 :: x15 :: x16 :: sv :: l) := stow_at rfl h
@[simp] theorem stow_18 (h : Nio x18) : stow (x0 :: x1 :: x2 :: x3 :: x4 :: x5 :: x6 :: x7 :: x8 :: x9 :: x10 :: x11 :: x12 :: x13 :: x14 :: x15 :: x16 :: x17 :: x18 :: l) 18 sv = .ok () (x0 :: x1 :: x2 :: x3 :: x4 :: x5 :: x6 :: x7 :: x8 :: x9 :: x10 :: x11 :: x12 :: x13 :: x14 :: x15 :: x16 :: x17 :: sv :: l) := stow_at rfl h
@[simp] theorem stow_19 (h : Nio x19) : stow (x0 :: x1 :: x2 :: x3 :: x4 :: x5 :: x6 :: x7 :: x8 :: x9 :: x10 :: x11 :: x12 :: x13 :: x14 :: x15 :: x16 :: x17 :: x18 :: x19 :: l) 19 sv = .ok () (x0 :: x1 :: x2 :: x3 :: x4 :: x5 :: x6 :: x7 :: x8 :: x9 :: x10 :: x11 :: x12 :: x13 :: x14 :: x15 :: x16 :: x17 :: x18 :: sv :: l) := stow_at rfl h
@[simp] theorem stow_20 (h : Nio x20) : stow (x0 :: x1 :: x2 :: x3 :: x4 :: x5 :: x6 :: x7 :: x8 :: x9 :: x10 :: x11 :: x12 :: x13 :: x14 :: x15 :: x16 :: x17 :: x18 :: x19 :: x20 :: l) 20 sv = .ok () (x0 :: x1 :: x2 :: x3 :: x4 :: x5 :: x6 :: x7 :: x8 :: x9 :: x10 :: x11 :: x12 :: x13 :: x14 :: x15 :: x16 :: x17 :: x18 :: x19 :: sv :: l) := stow_at rfl h
end
/-! ### what stands behind a value -/
def seqK (t : DM Fl) : Fl → SE → R Fl
  | .nx, ρ => t ρ
  | .rt r, ρ => .ok (.rt r) ρ
  | .bk, ρ => .ok .bk ρ
  | .ct, ρ => .ok .ct ρ
def varK (i : Nat) (o : Option SV) (ρ : SE) : R RV := match o with
  | some (.im d) => .ok (.im d) ρ
  | some (.ow _ _) => .ok (.bo i) ρ
  | _ => .bad
def parK (i j : Nat) (as : List AV) (ρ1 : SE) : R Fl := match as with
  | [.d d, .d e] => (stow ρ1 i (.im d)).bind fun _ ρ2 => (stow ρ2 j (.im e)).bind fun _ ρ3 => .ok .nx ρ3
  | _ => .bad
def augK (i : Nat) (g : D → D → Option RV) (m : DM RV) (o : Option SV) (ρ : SE) : R Fl := match o with
  | some (.im d) => (m ρ).bind fun r ρ1 => match (look ρ1 r).bind fun e => g (unl d) e with
    | some (.im f) => (stow ρ1 i (.im f)).bind fun _ ρ2 => .ok .nx ρ2
    | _ => .bad
  | _ => .bad
def augO (i : Nat) (o : Option RV) (ρ1 : SE) : R Fl := match o with
  | some (.im f) => (stow ρ1 i (.im f)).bind fun _ ρ2 => .ok .nx ρ2
  | _ => .bad
def fldK (i : Nat) (c f : Str) (d : D) (o : Option SV) (ρ1 : SE) : R Fl := match o with
  | some (.ow io (.ob c' fs)) => if c' = c ∧ fs.length < 900 then .ok .nx (ρ1.set i (.ow io (.ob c' (putD f d fs)))) else .bad
  | _ => .bad
def chainK (h : D → D → Option RV) (mc : DM RV) (y : RV) (o : Option RV) (ρ2 : SE) : R RV := match o with
  | some (.im (.bl false)) => .ok (.im (.bl false)) ρ2
  | some (.im (.bl true)) => (mc ρ2).bind fun z ρ3 => ofO ((look ρ3 y).bind fun d => (look ρ3 z).bind fun e => h d e) ρ3
  | _ => .bad
def aioK (i : Nat) (ms : DM (List AV)) (o : Option SV) (ρ : SE) : R (List AV) := match o with
  | some (.ow _ _) => (ms ρ).bind fun as ρ2 => match ρ2[i]? with
    | some (.ow _ _) => .ok (.io i :: as) ρ2
    | _ => .bad
  | _ => .bad
def aioL (i : Nat) (as : List AV) (o : Option SV) (ρ2 : SE) : R (List AV) := match o with
  | some (.ow _ _) => .ok (.io i :: as) ρ2
  | _ => .bad
def methK (tab : List (Str × (SE → R RV))) (n : Nat) (dds : List D) (ms : DM (List AV)) (d : D) (ρ1 : SE) : R RV := match d with
  | .obj c fs => (match tab.lookup c with
    | some mm => dCall n dds mm (aFst d ms) ρ1
    | none => .bad)
  | _ => .bad
def makeR (r : R RV) (ρ1 : SE) : R RV := match r with
  | .ok (.im .non) (.ow true (.ob c' fs) :: _) => .ok (.ow (.ob c' fs)) ρ1
  | .ex e _ => .ex e ρ1
  | _ => .bad
def makeK (c : Str) (n : Nat) (dds : List D) (mI : SE → R RV) (o : Option (List D)) (ρ1 : SE) : R RV := match o with
  | some xs => if (xs ++ dds).length + 1 = n then makeR (mI (.ow true (.ob c []) :: (xs ++ dds).map SV.im)) ρ1 else .bad
  | none => .bad
def rg1K (ds : List D) (ρ1 : SE) : R (List D) := match ds with
  | [.int j] => if rngOk j = true then .ok ((List.range j.toNat).map fun (i : Nat) => D.int (0 + (i : Int))) ρ1 else .bad
  | _ => .bad
def rg2K (ds : List D) (ρ1 : SE) : R (List D) := match ds with
  | [.int i, .int j] => if (rngOk i && rngOk j) = true then .ok ((List.range (j - i).toNat).map fun (k : Nat) => D.int (i + k)) ρ1 else .bad
  | _ => .bad
def vK (o : Option D) (ds : List D) (ρ2 : SE) : R (List D) := match o with
  | some d => .ok (d :: ds) ρ2
  | none => .bad
def lmO (i : Nat) (g : List D → List D → Option (D × List D)) (as : Option (List D)) (o : Option SV) (ρ1 : SE) : R RV := match o, as with
    | some (.ow io (.ls ds)), some xs => match g ds xs with
      | some (d, es) => .ok (.im d) (ρ1.set i (.ow io (.ls es)))
      | none => .bad
    | _, _ => .bad
def lmK (i : Nat) (g : List D → List D → Option (D × List D)) (ms : DM (List AV)) (o : Option SV) (ρ : SE) : R RV := match o with
  | some (.ow _ (.ls _)) => (ms ρ).bind fun as ρ1 => lmO i g (avD as) ρ1[i]? ρ1
  | _ => .bad
def lmP (i : Nat) (io : Bool) (o : Option (D × List D)) (ρ1 : SE) : R RV := match o with
  | some (d, es) => .ok (.im d) (ρ1.set i (.ow io (.ls es)))
  | none => .bad
def joinK (mb : DM RV) (x : RV) (ρ1 : SE) : R RV := match x with
  | .im (.str a) => (mb ρ1).bind fun y ρ2 => ofO ((look ρ2 y).bind (joinD (.str a))) ρ2
  | _ => .bad
section
variable {ρ ρ1 ρ2 : SE} {d e f : D} {i j n : Nat} {E : Exc → SE → Prop}
@[simp ↓, simp] theorem u_sSeq {s t : DM Fl} {c : Cont Fl} : Wp (sSeq s t ρ) = Wp ((s ρ).bind fun f ρ1 => seqK t f ρ1 : R (Fl)) := by
  have e : sSeq s t ρ = (s ρ).bind fun f ρ1 => seqK t f ρ1 := by
    show ((s ρ).bind fun f ρ1 => match f with
      | .nx => t ρ1
      | f => .ok f ρ1) = _
    cases s ρ with
    | bad => rfl
    | ex e ρ1 => rfl
    | ok f ρ1 => cases f <;> rfl
  rw [e]
@[simp ↓, simp] theorem u_sIf {mt : DM Bool} {s t : DM Fl} {c : Cont Fl} : Wp (sIf mt s t ρ) = Wp ((mt ρ).bind fun k ρ1 => if k = true then s ρ1 else t ρ1 : R (Fl)) := rfl
@[simp ↓, simp] theorem u_sSet {i : Nat} {m : DM RV} {c : Cont Fl} : Wp (sSet i m ρ) = Wp (((m ρ).bind asSV).bind fun sv ρ1 => (stow ρ1 i sv).bind fun _ ρ2 => .ok .nx ρ2 : R (Fl)) := rfl
@[simp ↓, simp] theorem u_sFor {mi : DM (List D)} {gm : D → SE → R Unit} {b : DM Fl} {c : Cont Fl} : Wp (sFor mi gm b ρ) = Wp ((mi ρ).bind fun ds ρ1 => floop gm b ds ρ1 : R (Fl)) := rfl
@[simp ↓, simp] theorem u_sRet {m : DM RV} {c : Cont Fl} : Wp (sRet m ρ) = Wp ((m ρ).bind fun r ρ1 => .ok (.rt r) ρ1 : R (Fl)) := rfl
@[simp ↓, simp] theorem u_sRetN {c : Cont Fl} : Wp (sRetN ρ) = Wp ((.ok (.rt (.im .non)) ρ : R Fl) : R (Fl)) := rfl
@[simp ↓, simp] theorem u_sExpr {m : DM RV} {c : Cont Fl} : Wp (sExpr m ρ) = Wp ((m ρ).bind fun _ ρ1 => (.ok .nx ρ1 : R Fl) : R (Fl)) := rfl
@[simp ↓, simp] theorem u_sPass {c : Cont Fl} : Wp (sPass ρ) = Wp ((.ok .nx ρ : R Fl) : R (Fl)) := rfl
@[simp ↓, simp] theorem u_sBrk {c : Cont Fl} : Wp (sBrk ρ) = Wp ((.ok .bk ρ : R Fl) : R (Fl)) := rfl
@[simp ↓, simp] theorem u_sCnt {c : Cont Fl} : Wp (sCnt ρ) = Wp ((.ok .ct ρ : R Fl) : R (Fl)) := rfl
@[simp ↓, simp] theorem u_sRaise0 {x T : Str} {c : Cont Fl} : Wp (sRaise0 x T ρ) = Wp ((.ex ⟨x, [("tag", .str T)]⟩ ρ : R Fl) : R (Fl)) := rfl
@[simp ↓, simp] theorem u_sRaise1 {x T f : Str} {ma : DM RV} {c : Cont Fl} : Wp (sRaise1 x T f ma ρ) = Wp ((dFz ma ρ).bind fun d ρ1 => (.ex ⟨x, [(f, d), ("tag", .str T)]⟩ ρ1 : R Fl) : R (Fl)) := rfl
@[simp ↓, simp] theorem u_sAsg {gm : D → SE → R Unit} {m : DM RV} {c : Cont Fl} : Wp (sAsg gm m ρ) = Wp ((dFz m ρ).bind fun d ρ1 => (gm d ρ1).bind fun _ ρ2 => .ok .nx ρ2 : R (Fl)) := rfl
@[simp ↓, simp] theorem u_sPar {i j : Nat} {ms : DM (List AV)} {c : Cont Fl} : Wp (sPar i j ms ρ) = Wp ((ms ρ).bind fun as ρ1 => parK i j as ρ1 : R (Fl)) := rfl
@[simp ↓, simp] theorem u_sAug {i : Nat} {g : D → D → Option RV} {m : DM RV} {c : Cont Fl} : Wp (sAug i g m ρ) = Wp (augK i g m ρ[i]? ρ : R (Fl)) := rfl
@[simp ↓, simp] theorem u_sFldD {i : Nat} {x f : Str} {m : DM RV} {c : Cont Fl} : Wp (sFldD i x f m ρ) = Wp ((dFz m ρ).bind fun d ρ1 => fldK i x f d ρ1[i]? ρ1 : R (Fl)) := rfl
@[simp ↓, simp] theorem u_dAndT {mt mu : DM Bool} {c : Cont Bool} : Wp (dAndT mt mu ρ) = Wp ((mt ρ).bind fun k ρ1 => if k = true then mu ρ1 else .ok false ρ1 : R (Bool)) := rfl
@[simp ↓, simp] theorem u_dOrT {mt mu : DM Bool} {c : Cont Bool} : Wp (dOrT mt mu ρ) = Wp ((mt ρ).bind fun k ρ1 => if k = true then .ok true ρ1 else mu ρ1 : R (Bool)) := rfl
@[simp ↓, simp] theorem u_dNotT {mt : DM Bool} {c : Cont Bool} : Wp (dNotT mt ρ) = Wp ((mt ρ).bind fun k ρ1 => .ok (!k) ρ1 : R (Bool)) := rfl
@[simp ↓, simp] theorem u_dAnd {ma mb : DM RV} {c : Cont RV} : Wp (dAnd ma mb ρ) = Wp (((ma ρ).bind asB).bind fun k ρ1 => if k = true then mb ρ1 else .ok (.im (.bl false)) ρ1 : R (RV)) := rfl
@[simp ↓, simp] theorem u_dOr {ma mb : DM RV} {c : Cont RV} : Wp (dOr ma mb ρ) = Wp (((ma ρ).bind asB).bind fun k ρ1 => if k = true then .ok (.im (.bl true)) ρ1 else mb ρ1 : R (RV)) := rfl
@[simp ↓, simp] theorem u_dNot {ma : DM RV} {c : Cont RV} : Wp (dNot ma ρ) = Wp (((ma ρ).bind asB).bind fun k ρ1 => .ok (.im (.bl (!k))) ρ1 : R (RV)) := rfl
@[simp ↓, simp] theorem u_dIf {mt : DM Bool} {ma mb : DM RV} {c : Cont RV} : Wp (dIf mt ma mb ρ) = Wp ((mt ρ).bind fun k ρ1 => if k = true then ma ρ1 else mb ρ1 : R (RV)) := rfl
@[simp ↓, simp] theorem u_dVar {i : Nat} {c : Cont RV} : Wp (dVar i ρ) = Wp (varK i ρ[i]? ρ : R (RV)) := rfl
@[simp ↓, simp] theorem u_dC {d : D} {c : Cont RV} : Wp (dC d ρ) = Wp ((.ok (.im d) ρ : R RV) : R (RV)) := rfl
@[simp ↓, simp] theorem u_dOp1 {g : D → Option RV} {ma : DM RV} {c : Cont RV} : Wp (dOp1 g ma ρ) = Wp ((ma ρ).bind fun x ρ1 => ofO ((look ρ1 x).bind g) ρ1 : R (RV)) := rfl
@[simp ↓, simp] theorem u_dOp2 {g : D → D → Option RV} {ma mb : DM RV} {c : Cont RV} : Wp (dOp2 g ma mb ρ) = Wp ((ma ρ).bind fun x ρ1 => (mb ρ1).bind fun y ρ2 => ofO ((look ρ2 x).bind fun d => (look ρ2 y).bind fun e => g d e) ρ2 : R (RV)) := rfl
@[simp ↓, simp] theorem u_dChain {g h : D → D → Option RV} {ma mb mc : DM RV} {c : Cont RV} : Wp (dChain g h ma mb mc ρ) = Wp ((ma ρ).bind fun x ρ1 => (mb ρ1).bind fun y ρ2 => chainK h mc y ((look ρ2 x).bind fun d => (look ρ2 y).bind fun e => g d e) ρ2 : R (RV)) := rfl
@[simp ↓, simp] theorem u_dFz {ma : DM RV} {c : Cont D} : Wp (dFz ma ρ) = Wp ((ma ρ).bind fz : R (D)) := rfl
@[simp ↓, simp] theorem u_aNil {c : Cont (List AV)} : Wp (aNil ρ) = Wp ((.ok [] ρ : R (List AV)) : R (List AV)) := rfl
@[simp ↓, simp] theorem u_aCons {ma : DM RV} {ms : DM (List AV)} {c : Cont (List AV)} : Wp (aCons ma ms ρ) = Wp ((dFz ma ρ).bind fun d ρ1 => (ms ρ1).bind fun as ρ2 => .ok (.d d :: as) ρ2 : R (List AV)) := rfl
@[simp ↓, simp] theorem u_aFst {d : D} {ms : DM (List AV)} {c : Cont (List AV)} : Wp (aFst d ms ρ) = Wp ((ms ρ).bind fun as ρ2 => .ok (.d d :: as) ρ2 : R (List AV)) := rfl
@[simp ↓, simp] theorem u_aIo {i : Nat} {ms : DM (List AV)} {c : Cont (List AV)} : Wp (aIo i ms ρ) = Wp (aioK i ms ρ[i]? ρ : R (List AV)) := rfl
@[simp ↓, simp] theorem u_dCall {n : Nat} {ds : List D} {m : SE → R RV} {ms : DM (List AV)} {c : Cont RV} : Wp (dCall n ds m ms ρ) = Wp ((ms ρ).bind fun as ρ1 => if (as ++ ds.map AV.d).length = n then callR m (as ++ ds.map AV.d) ρ1 else .bad : R (RV)) := rfl
@[simp ↓, simp] theorem u_dMeth {tab : List (Str × (SE → R RV))} {n : Nat} {ds : List D} {mo : DM RV} {ms : DM (List AV)} {c : Cont RV} : Wp (dMeth tab n ds mo ms ρ) = Wp ((dFz mo ρ).bind fun d ρ1 => methK tab n ds ms d ρ1 : R (RV)) := rfl
@[simp ↓, simp] theorem u_dMake {x : Str} {n : Nat} {ds : List D} {mI : SE → R RV} {ms : DM (List AV)} {c : Cont RV} : Wp (dMake x n ds mI ms ρ) = Wp ((ms ρ).bind fun as ρ1 => makeK x n ds mI (avD as) ρ1 : R (RV)) := rfl
@[simp ↓, simp] theorem u_dLc {vs : List Nat} {mi : DM (List D)} {gm : D → SE → R Unit} {mt : DM Bool} {me : DM RV} {c : Cont RV} : Wp (dLc vs mi gm mt me ρ) = Wp ((mi ρ).bind fun ds ρ1 => (cLoop vs gm mt me ds [] ρ1).bind fun ys ρ2 => .ok (.ow (.ls ys)) ρ2 : R (RV)) := rfl
@[simp ↓, simp] theorem u_iSeq {m : DM RV} {c : Cont (List D)} : Wp (iSeq m ρ) = Wp ((dFz m ρ).bind iSeqs : R (List D)) := rfl
@[simp ↓, simp] theorem u_iZip2 {ms : DM (List AV)} {c : Cont (List D)} : Wp (iZip2 ms ρ) = Wp ((ms ρ).bind zipR : R (List D)) := rfl
@[simp ↓, simp] theorem u_iRange1 {mv : DM (List D)} {c : Cont (List D)} : Wp (iRange1 mv ρ) = Wp ((mv ρ).bind fun ds ρ1 => rg1K ds ρ1 : R (List D)) := rfl
@[simp ↓, simp] theorem u_iRange2 {mv : DM (List D)} {c : Cont (List D)} : Wp (iRange2 mv ρ) = Wp ((mv ρ).bind fun ds ρ1 => rg2K ds ρ1 : R (List D)) := rfl
@[simp ↓, simp] theorem u_vNil {c : Cont (List D)} : Wp (vNil ρ) = Wp ((.ok [] ρ : R (List D)) : R (List D)) := rfl
@[simp ↓, simp] theorem u_vCons {ma : DM RV} {ms : DM (List D)} {c : Cont (List D)} : Wp (vCons ma ms ρ) = Wp ((ma ρ).bind fun x ρ1 => (ms ρ1).bind fun ds ρ2 => vK (look ρ2 x) ds ρ2 : R (List D)) := rfl
@[simp ↓, simp] theorem u_dCb {g : List D → Option RV} {mv : DM (List D)} {c : Cont RV} : Wp (dCb g mv ρ) = Wp ((mv ρ).bind fun ds ρ1 => ofO (g ds) ρ1 : R (RV)) := rfl
@[simp ↓, simp] theorem u_dTup {ms : DM (List AV)} {c : Cont RV} : Wp (dTup ms ρ) = Wp ((ms ρ).bind fun as ρ1 => ofO ((avD as).bind fun ds => if ds.length ≤ 1000 then some (.im (.tup ds)) else none) ρ1 : R (RV)) := rfl
@[simp ↓, simp] theorem u_dLst {ms : DM (List AV)} {c : Cont RV} : Wp (dLst ms ρ) = Wp ((ms ρ).bind fun as ρ1 => ofO ((avD as).bind fun ds => if ds.length ≤ 1000 then some (.ow (.ls ds)) else none) ρ1 : R (RV)) := rfl
@[simp ↓, simp] theorem u_dSl {ma : DM RV} {ml mh : DM (Option Int)} {c : Cont RV} : Wp (dSl ma ml mh ρ) = Wp ((ma ρ).bind fun x ρ1 => (ml ρ1).bind fun l ρ2 => (mh ρ2).bind fun u ρ3 => ofO ((look ρ3 x).bind fun d => slD d l u) ρ3 : R (RV)) := rfl
@[simp ↓, simp] theorem u_oNone {c : Cont (Option Int)} : Wp (oNone ρ) = Wp ((.ok none ρ : R (Option Int)) : R (Option Int)) := rfl
@[simp ↓, simp] theorem u_oSome {m : DM RV} {c : Cont (Option Int)} : Wp (oSome m ρ) = Wp ((m ρ).bind asPart : R (Option Int)) := rfl
@[simp ↓, simp] theorem u_lmD {i : Nat} {g : List D → List D → Option (D × List D)} {ms : DM (List AV)} {c : Cont RV} : Wp (lmD i g ms ρ) = Wp (lmK i g ms ρ[i]? ρ : R (RV)) := rfl
@[simp ↓, simp] theorem u_tgName {i : Nat} {d : D} {c : Cont Unit} : Wp (tgName i d ρ) = Wp (stow ρ i (.im d) : R (Unit)) := rfl
@[simp ↓, simp] theorem u_tYesD {c : Cont Bool} : Wp (tYesD ρ) = Wp ((.ok true ρ : R Bool) : R (Bool)) := rfl
@[simp ↓, simp] theorem u_cTurn {vs : List Nat} {gm : D → SE → R Unit} {mt : DM Bool} {me : DM RV} {d : D} {c : Cont (Option D)} : Wp (cTurn vs gm mt me d ρ) = Wp ((noEx (gm d (wipeR ρ vs))).bind fun _ ρ1 => (noEx (mt ρ1)).bind fun k ρ2 => if k = true then (noEx (dFz me ρ2)).bind fun y ρ3 => .ok (some y) (rest vs ρ ρ3) else .ok none (rest vs ρ ρ2) : R (Option D)) := rfl
@[simp ↓, simp] theorem u_dStrJoin {ma mb : DM RV} {c : Cont RV} : Wp (dStrJoin ma mb ρ) = Wp ((ma ρ).bind fun x ρ1 => joinK mb x ρ1 : R (RV)) := rfl
@[simp] theorem seqK_nx {t : DM Fl} : seqK t .nx ρ = t ρ := rfl
@[simp] theorem seqK_rt {t : DM Fl} {r : RV} : seqK t (.rt r) ρ = .ok (.rt r) ρ := rfl
@[simp] theorem seqK_bk {t : DM Fl} : seqK t .bk ρ = .ok .bk ρ := rfl
@[simp] theorem seqK_ct {t : DM Fl} : seqK t .ct ρ = .ok .ct ρ := rfl
@[simp ↓, simp] theorem w_seq_nx {t : DM Fl} {c : Cont Fl} : Wp (seqK t .nx ρ) = Wp (t ρ) := rfl
@[simp] theorem varK_im : varK i (some (.im d)) ρ = .ok (.im d) ρ := rfl
@[simp] theorem varK_ow {io : Bool} {oc : OC} : varK i (some (.ow io oc)) ρ = .ok (.bo i) ρ := rfl
@[simp] theorem parK_two : parK i j [.d d, .d e] ρ = (stow ρ i (.im d)).bind fun _ ρ2 => (stow ρ2 j (.im e)).bind fun _ ρ3 => .ok .nx ρ3 := rfl
@[simp ↓, simp] theorem w_par {c : Cont Fl} : Wp (parK i j [.d d, .d e] ρ) = Wp ((stow ρ i (.im d)).bind fun _ ρ2 => (stow ρ2 j (.im e)).bind fun _ ρ3 => (.ok .nx ρ3 : R Fl)) := rfl
@[simp ↓, simp] theorem w_aug {g : D → D → Option RV} {m : DM RV} {c : Cont Fl} : Wp (augK i g m (some (.im d)) ρ) = Wp ((m ρ).bind fun r ρ1 => augO i ((look ρ1 r).bind fun e => g (unl d) e) ρ1) := rfl
@[simp ↓, simp] theorem w_augO {c : Cont Fl} : Wp (augO i (some (.im d)) ρ) = Wp ((stow ρ i (.im d)).bind fun _ ρ2 => (.ok .nx ρ2 : R Fl)) := rfl
@[simp] theorem fldK_ob {c f : Str} {io : Bool} {fs : List (Str × D)} : fldK i c f d (some (.ow io (.ob c fs))) ρ = if fs.length < 900 then .ok .nx (ρ.set i (.ow io (.ob c (putD f d fs)))) else .bad := by
  show (if c = c ∧ fs.length < 900 then _ else _) = _
  simp
@[simp] theorem chainK_f {h : D → D → Option RV} {mc : DM RV} {y : RV} : chainK h mc y (some (.im (.bl false))) ρ = .ok (.im (.bl false)) ρ := rfl
@[simp ↓, simp] theorem w_chain {h : D → D → Option RV} {mc : DM RV} {y : RV} {c : Cont RV} : Wp (chainK h mc y (some (.im (.bl true))) ρ) = Wp ((mc ρ).bind fun z ρ3 => ofO ((look ρ3 y).bind fun d => (look ρ3 z).bind fun e => h d e) ρ3) := rfl
theorem w_chain_if {h : D → D → Option RV} {mc : DM RV} {y : RV} {k : Bool} {Q : RV → SE → Prop} (h1 : k = false → Q (.im (.bl false)) ρ) (h2 : k = true → WP ((mc ρ).bind fun z ρ3 => ofO ((look ρ3 y).bind fun d => (look ρ3 z).bind fun e => h d e) ρ3) Q E) : WP (chainK h mc y (some (.im (.bl k))) ρ) Q E := by
  cases k with
  | false => exact wpI (h1 rfl)
  | true => exact h2 rfl
@[simp ↓, simp] theorem w_aio {ms : DM (List AV)} {io : Bool} {oc : OC} {c : Cont (List AV)} : Wp (aioK i ms (some (.ow io oc)) ρ) = Wp ((ms ρ).bind fun as ρ2 => aioL i as ρ2[i]? ρ2) := rfl
@[simp] theorem aioL_ow {as : List AV} {io : Bool} {oc : OC} : aioL i as (some (.ow io oc)) ρ = .ok (.io i :: as) ρ := rfl
@[simp ↓, simp] theorem w_meth1 {x : Str} {mm : SE → R RV} {ds : List D} {ms : DM (List AV)} {fs : List (Str × D)} {c : Cont RV} : Wp (methK [(x, mm)] n ds ms (.obj x fs) ρ) = Wp (dCall n ds mm (aFst (.obj x fs) ms) ρ) := by
  have e : methK [(x, mm)] n ds ms (.obj x fs) ρ = dCall n ds mm (aFst (.obj x fs) ms) ρ := by
    show (match List.lookup x [(x, mm)] with
      | some mm => dCall n ds mm (aFst (.obj x fs) ms) ρ
      | none => .bad) = _
    rw [List.lookup_cons, beq_self_eq_true]
  rw [e]
def obSV : Option SV → Option (Str × List (Str × D))
  | some (.ow true (.ob c fs)) => some (c, fs)
  | _ => none
@[simp] theorem obSV_ob {c : Str} {fs : List (Str × D)} : obSV (some (.ow true (.ob c fs))) = some (c, fs) := rfl
@[simp ↓, simp] theorem w_makeR {r : R RV} {Q : RV → SE → Prop} : WP (makeR r ρ) Q E = WP r (fun x svs => x = .im .non ∧ ∃ p, obSV svs[0]? = some p ∧ Q (.ow (.ob p.1 p.2)) ρ) (fun e _ => E e ρ) := by
  cases r with
  | bad => exact wp_bad.trans wp_bad.symm
  | ex e ρ1 => exact wp_ex.trans (wp_ex (E := fun e _ => E e ρ)).symm
  | ok x svs =>
    rw [wp_ok]
    cases x with
    | im d =>
      cases d with
      | non =>
        cases svs with
        | nil => simp [makeR, obSV]
        | cons sv svs =>
          cases sv with
          | no => simp [makeR, obSV]
          | im d => simp [makeR, obSV]
          | ow io oc =>
            cases io with
            | false => simp [makeR, obSV]
            | true =>
              cases oc with
              | ls ds => simp [makeR, obSV]
              | ob c fs => simp [makeR, obSV]
      | _ => simp [makeR]
    | _ => simp [makeR]
@[simp] theorem makeK_some {x : Str} {dds xs : List D} {mI : SE → R RV} : makeK x n dds mI (some xs) ρ = if (xs ++ dds).length + 1 = n then makeR (mI (.ow true (.ob x []) :: (xs ++ dds).map SV.im)) ρ else .bad := rfl
@[simp] theorem rg1K_int {k : Int} : rg1K [.int k] ρ = if rngOk k = true then .ok ((List.range k.toNat).map fun (i : Nat) => D.int (0 + (i : Int))) ρ else .bad := rfl
@[simp] theorem rg2K_int {a b : Int} : rg2K [.int a, .int b] ρ = if (rngOk a && rngOk b) = true then .ok ((List.range (b - a).toNat).map fun (k : Nat) => D.int (a + k)) ρ else .bad := rfl
theorem rngOk_of {k : Int} (h1 : -1000000000000 ≤ k) (h2 : k ≤ 1000000000000) : rngOk k = true := decide_eq_true ⟨h1, h2⟩
@[simp] theorem vK_some {ds : List D} : vK (some d) ds ρ = .ok (d :: ds) ρ := rfl
@[simp ↓, simp] theorem w_lm {g : List D → List D → Option (D × List D)} {ms : DM (List AV)} {io : Bool} {ds : List D} {c : Cont RV} : Wp (lmK i g ms (some (.ow io (.ls ds))) ρ) = Wp ((ms ρ).bind fun as ρ1 => lmO i g (avD as) ρ1[i]? ρ1) := rfl
@[simp] theorem lmO_ls {g : List D → List D → Option (D × List D)} {io : Bool} {ds xs : List D} : lmO i g (some xs) (some (.ow io (.ls ds))) ρ = lmP i io (g ds xs) ρ := rfl
@[simp] theorem lmP_some {io : Bool} {es : List D} : lmP i io (some (d, es)) ρ = .ok (.im d) (ρ.set i (.ow io (.ls es))) := rfl
@[simp ↓, simp] theorem w_join {mb : DM RV} {a : Str} {c : Cont RV} : Wp (joinK mb (.im (.str a)) ρ) = Wp ((mb ρ).bind fun y ρ2 => ofO ((look ρ2 y).bind (joinD (.str a))) ρ2) := rfl
@[simp] theorem avD_nil : avD [] = some [] := rfl
@[simp] theorem avD_cons {as : List AV} : avD (.d d :: as) = (avD as).map (d :: ·) := rfl
@[simp] theorem avD_map {ds : List D} : avD (ds.map AV.d) = some ds := by
  induction ds with
  | nil => rfl
  | cons d ds ih =>
    rw [List.map_cons, avD_cons, ih]
    rfl
def lookK : Option SV → Option D
  | some (.ow _ oc) => some oc.D
  | _ => none
@[simp] theorem look_bo : look ρ (.bo i) = lookK ρ[i]? := rfl
@[simp] theorem lookK_ow {io : Bool} {oc : OC} : lookK (some (.ow io oc)) = some oc.D := rfl
def fzK (i : Nat) (o : Option SV) (ρ : SE) : R D := match o with
  | some (.ow false oc) => .ok oc.D (ρ.set i (.im oc.D))
  | _ => .bad
@[simp] theorem fz_bo : fz (.bo i) ρ = fzK i ρ[i]? ρ := rfl
@[simp] theorem fzK_ow {oc : OC} : fzK i (some (.ow false oc)) ρ = .ok oc.D (ρ.set i (.im oc.D)) := rfl
def asK (i : Nat) (o : Option SV) (ρ : SE) : R SV := match o with
  | some (.ow false oc) => .ok (.im oc.D) (ρ.set i (.im oc.D))
  | _ => .bad
@[simp] theorem asSV_bo : asSV (.bo i) ρ = asK i ρ[i]? ρ := rfl
@[simp] theorem asK_ow {oc : OC} : asK i (some (.ow false oc)) ρ = .ok (.im oc.D) (ρ.set i (.im oc.D)) := rfl
@[simp] theorem asPart_int {k : Int} : asPart (.im (.int k)) ρ = .ok (some k) ρ := rfl
@[simp] theorem iSeqs_lst {ds : List D} : iSeqs (.lst ds) ρ = .ok ds ρ := rfl
@[simp] theorem iSeqs_tup {ds : List D} : iSeqs (.tup ds) ρ = .ok ds ρ := rfl
@[simp] theorem iSeqs_scr {ns : List Int} : iSeqs (.scr ns) ρ = .ok (ns.map D.int) ρ := rfl
@[simp] theorem iSeqs_str {x : Str} : iSeqs (.str x) ρ = .ok (x.cps.toList.map fun c => D.str ⟨#[c]⟩) ρ := rfl
@[simp] theorem zipR_lst {xs ys : List D} : zipR [.d (.lst xs), .d (.lst ys)] ρ = .ok (zipD xs ys) ρ := rfl
@[simp] theorem zipR_tup {xs ys : List D} : zipR [.d (.tup xs), .d (.tup ys)] ρ = .ok (zipD xs ys) ρ := rfl
@[simp] theorem mRet_nx {svs : SE} : mRet svs .nx ρ = .ok (.im .non) (outs svs ρ) := rfl
@[simp] theorem mRet_im {svs : SE} : mRet svs (.rt (.im d)) ρ = .ok (.im d) (outs svs ρ) := rfl
@[simp] theorem mRet_ow {svs : SE} {oc : OC} : mRet svs (.rt (.ow oc)) ρ = .ok (.ow oc) (outs svs ρ) := rfl
def retK (svs : SE) (o : Option SV) (ρ : SE) : R RV := match o with
  | some (.ow false ds) => .ok (.ow ds) (outs svs ρ)
  | _ => .bad
@[simp] theorem mRet_bo {svs : SE} : mRet svs (.rt (.bo i)) ρ = retK svs ρ[i]? ρ := rfl
@[simp] theorem retK_ow {svs : SE} {oc : OC} : retK svs (some (.ow false oc)) ρ = .ok (.ow oc) (outs svs ρ) := rfl
@[simp] theorem outs_nil : outs [] ρ = [] := by
  cases ρ <;> rfl
@[simp] theorem outs_cons {sv sw : SV} {r s : SE} : outs (sv :: r) (sw :: s) = out1 sv sw :: outs r s := rfl
@[simp] theorem out1_im {sv : SV} : out1 (.im d) sv = .im d := by
  cases sv <;> rfl
@[simp] theorem out1_ow {oc o2 : OC} : out1 (.ow true oc) (.ow true o2) = .ow true o2 := rfl
@[simp ↓, simp] theorem w_noEx {α : Type} {r : R α} {Q : α → SE → Prop} : WP (noEx r) Q E = WP r Q noX := by
  cases r with
  | bad => exact wp_bad.trans wp_bad.symm
  | ok a ρ => exact wp_ok.trans wp_ok.symm
  | ex e ρ => exact wp_bad.trans (wp_ex (E := noX)).symm
@[simp ↓, simp] theorem w_tup {gs : List D → SE → R Unit} {ds : List D} {c : Cont Unit} : Wp (tgTup n gs (.tup ds) ρ) = Wp (if ds.length = n then gs ds ρ else .bad) := rfl
@[simp ↓, simp] theorem w_tcons {g : D → SE → R Unit} {gs : List D → SE → R Unit} {ds : List D} {c : Cont Unit} : Wp (tgCons g gs (d :: ds) ρ) = Wp ((g d ρ).bind fun _ ρ1 => gs ds ρ1) := rfl
@[simp ↓, simp] theorem w_tnil {c : Cont Unit} : Wp (tgNil [] ρ) = Wp (.ok () ρ : R Unit) := rfl
@[simp ↓, simp] theorem w_if_t {α : Type} {r s : R α} {c : Cont α} : Wp (if true = true then r else s) = Wp r := rfl
@[simp ↓, simp] theorem w_if_f {α : Type} {r s : R α} {c : Cont α} : Wp (if false = true then r else s) = Wp s := rfl
@[simp ↓, simp] theorem w_out {mF : SE → R RV} {ok : Str → Bool} {mb : DM RV} {Q : RV → SE → Prop} : WP (dOut mF ok mb ρ) Q E = WP (mb ρ) (fun r ρ1 => WP (fz r ρ1) (fun d ρ2 => Q (.im (.tup [.str "", d])) ρ2) E) (fun e ρ1 => WP (outEx mF ok e ρ1) Q E) := by
  unfold dOut
  cases mb ρ with
  | bad => exact wp_bad.trans wp_bad.symm
  | ok r ρ1 =>
    rw [wp_ok]
    exact wp_bind.trans (by simp only [wp_ok])
  | ex e ρ1 => exact (wp_ex (E := fun e ρ1 => WP (outEx mF ok e ρ1) Q E)).symm
@[simp] theorem putD_nil {x : Str} : putD x d [] = [(x, d)] := rfl
@[simp] theorem putD_cons {x y : Str} {fs : List (Str × D)} : putD x d ((y, e) :: fs) = if y = x then (y, d) :: fs else (y, e) :: putD x d fs := rfl
@[simp] theorem wipeR_nil : wipeR ρ [] = ρ := rfl
@[simp] theorem wipeR_cons {v : Nat} {vs : List Nat} : wipeR ρ (v :: vs) = (wipeR ρ vs).set v .no := rfl
@[simp] theorem addO_some {acc : List D} : addO acc (some d) = acc ++ [d] := rfl
@[simp] theorem addO_none {acc : List D} : addO acc none = acc := rfl
end
end DL

/- part -/
set_option Elab.async false
set_option linter.all false
set_option maxRecDepth 100000
set_option maxHeartbeats 1000000
namespace DL
open PySem PySem.Spec PyProof.Rows L2
section
variable {i j k : Int} {x : Str} {ds : List D} {d e : D} {ns : List Int} {ρ : SE}
@[simp] theorem negD_intA : negD (.int i) = some (.im (.int (-i))) := rfl
@[simp] theorem cutL_from {α : Type} {xs : List α} (h : 0 ≤ k) : cutL xs (some k) none = xs.drop k.toNat := by
  obtain ⟨n, rfl⟩ := Int.eq_ofNat_of_zero_le h
  have e := HT.sIx_nat xs.length 0 n
  unfold cutL
  rw [HT.sIx_none]
  show (xs.drop (HT.sIx xs.length 0 (some (n : Int)))).take (xs.length - HT.sIx xs.length 0 (some (n : Int))) = _
  rw [e, Int.toNat_natCast]
  by_cases hn : n ≤ xs.length
  · rw [Nat.min_eq_left hn, List.take_of_length_le (by rw [List.length_drop]; exact Nat.le_refl _)]
  · rw [Nat.min_eq_right (by omega), List.drop_length, List.drop_of_length_le (by omega)]
    simp
@[simp] theorem cutL_to {α : Type} {xs : List α} (h : 0 ≤ k) : cutL xs none (some k) = xs.take k.toNat := by
  obtain ⟨n, rfl⟩ := Int.eq_ofNat_of_zero_le h
  have e := HT.sIx_nat xs.length xs.length n
  unfold cutL
  rw [HT.sIx_none]
  show (xs.drop 0).take (HT.sIx xs.length xs.length (some (n : Int)) - 0) = _
  rw [e, Int.toNat_natCast, Nat.sub_zero, List.drop_zero]
  by_cases hn : n ≤ xs.length
  · rw [Nat.min_eq_left hn]
  · rw [Nat.min_eq_right (by omega), List.take_of_length_le (by omega), List.take_of_length_le (by omega)]
@[simp] theorem slD_tupA {lo hi : Option Int} : slD (.tup ds) lo hi = some (.im (.tup (cutL ds lo hi))) := rfl
@[simp] theorem gTuple_lstA : gTuple [.lst ds] = some (.im (.tup ds)) := rfl
@[simp] theorem gTuple_tupA : gTuple [.tup ds] = some (.im (.tup ds)) := rfl
@[simp] theorem gList_tupA : gList [.tup ds] = some (.ow (.ls ds)) := rfl
@[simp] theorem gAbs_intA : gAbs [.int i] = some (.im (.int ((i.natAbs : Nat) : Int))) := by
  show some (RV.im (.int (if i < 0 then -i else i))) = _
  congr 3
  split <;> omega
@[simp] theorem gSorted_intsA : gSorted [.lst (ns.map D.int)] = some (.ow (.ls ((sortI ns).map D.int))) := by
  show (intsO (ns.map D.int)).map _ = _
  rw [intsO_map]
  rfl
theorem gSorted_tupA : gSorted [.tup (ns.map D.int)] = some (.ow (.ls ((sortI ns).map D.int))) := by
  show (intsO (ns.map D.int)).map _ = _
  rw [intsO_map]
  rfl
@[simp] theorem lenSet_intsA (h : ns.length ≤ 4000) : lenSetD (.lst (ns.map D.int)) = some (.im (.int (dedI ns).length)) := by
  show (match intsO (ns.map D.int) with
    | some ns => if ns.length ≤ 4000 then some (RV.im (.int (dedI ns).length)) else none
    | none => none) = _
  rw [intsO_map]
  exact if_pos h
theorem gMax_A {n : Int} : gMax [.lst ((n :: ns).map D.int)] = some (.im (.int (maxI n ns))) := by
  show (match intsO ((n :: ns).map D.int) with
    | some (n :: ns) => some (RV.im (.int (maxI n ns)))
    | _ => none) = _
  rw [intsO_map]
theorem gMin_A {n : Int} : gMin [.lst ((n :: ns).map D.int)] = some (.im (.int (minI n ns))) := by
  show (match intsO ((n :: ns).map D.int) with
    | some (n :: ns) => some (RV.im (.int (minI n ns)))
    | _ => none) = _
  rw [intsO_map]
theorem gAll_of {bs : List Bool} {ys : List D} (h : ys = bs.map D.bl) : gAll [.lst ys] = some (.im (.bl (bs.all id))) := by
  subst h
  show (asBls (bs.map D.bl)).map (fun bs => RV.im (.bl (bs.all id))) = _
  rw [asBls_map]
  rfl
theorem attr_ob {c f : Str} {fs : List (Str × D)} (h : fs.lookup f = some d) : attrD f (.obj c fs) = some (.im d) := by
  show (fs.lookup f).map RV.im = _
  rw [h]
  rfl
theorem rep_one {n : Nat} (h1 : 2 ≤ n) (h2 : n ≤ 1000) : repTD (.tup [d]) (.int n) = some (.im (.tup (List.replicate n d))) := by
  show (if (decide ((2 : Int) ≤ n) && decide ((n : Int) ≤ 1000) && decide ([d].length ≤ 1000) && ![d].isEmpty) = true then some (RV.im (.tup (List.replicate (n : Int).toNat [d]).flatten)) else none) = _
  rw [if_pos (by simp; omega)]
  have : (List.replicate n [d]).flatten = List.replicate n d := by
    clear h1 h2
    induction n with
    | zero => rfl
    | succ n ih => rw [List.replicate_succ, List.flatten_cons, ih, List.replicate_succ]; rfl
  rw [Int.toNat_natCast, this]
theorem in_ints : inD false (.int i) (.tup (ns.map D.int)) = some (.im (.bl (decide (i ∈ ns)))) := by
  have fl : (ns.map D.int).all flat = true := by
    rw [List.all_map]
    exact List.all_eq_true.mpr fun _ _ => rfl
  show (if (flat (.int i) && (ns.map D.int).all flat) = true then some (RV.im (.bl (false != (ns.map D.int).any fun y => eqv y (.int i)))) else none) = _
  rw [fl, if_pos (by rfl), List.any_map, Bool.false_bne]
  congr 3
  rw [Bool.eq_iff_iff, List.any_eq_true, decide_eq_true_iff]
  constructor
  · rintro ⟨y, h1, h2⟩
    have h2 : (y == i) = true := h2
    rw [← eq_of_beq h2]
    exact h1
  · intro h
    exact ⟨i, h, beq_self_eq_true i⟩
end
section
variable {α : Type} {ρ : SE} {Q : List D → SE → Prop} {E : Exc → SE → Prop} {vs : List Nat} {gm : D → SE → R Unit} {mt : DM Bool} {me : DM RV} {ds : List D}
theorem wp_cmap (f : D → D) (hn : noOw ρ vs = true) (hz : ds.length ≤ 1000000) (h : ∀ d ∈ ds, WP (cTurn vs gm mt me d ρ) (fun o ρ1 => o = some (f d) ∧ ρ1 = ρ) noX) (k : ∀ ys, ys = ds.map f → Q ys ρ) : WP (cLoop vs gm mt me ds [] ρ) Q E := by
  have e := cLoop_map (f := f) hn (fun d hd => Wp.eq (h d hd)) (acc := []) (ds := ds) (gm := gm) (mt := mt) (me := me) (by simpa using hz)
  exact .of e (k _ rfl)
end
end DL

/- part -/
set_option Elab.async false
set_option linter.all false
set_option maxRecDepth 100000
set_option maxHeartbeats 1000000
namespace DL
open PySem PySem.Spec PyProof.Rows L2
/-! ### own special methods: len, repr, ==, != -/
section
variable {X : Cx} {pins : List (Addr × Obj)} {σ : L2.St} {H : Hp} {s : Shared} {Q : VK} {us : List Value} {vs : List V} {k : Nat} {C f a : Addr} {fd : FuncData} {ps : List Str} {sp : Sp} {A : Around}
theorem run_sub (F : FnOk X.prog X.w X.K X.mg X.base (L2.CX X.prog X.w) k f fd ps sp) (bi : Binds X.K fd ps []) (sb : L2.Sub X k A) (I : L2.Inv X pins σ H s) (rel : Vals vs us) (want : sp vs H Q (fun cls d H' => W0 cls d σ H')) :
    wpAny (model X.prog X.w) A (call (.ref f) us) (EP X pins σ Q) X.xe s := by
  have e0 : Env0 X.prog X.w X.K X.mg X.base A X.stack s H := by
    have e := I.env0
    exact ⟨by rw [sb.fr]; exact e.frames, e.mod, e.bs, e.bsz, e.funs, e.frf, e.hok, e.bare⟩
  have len : us.length = ps.length := by
    rw [← rel.length]
    exact F.len _ _ _ _ want
  have pass : PassesAt (L2.CX X.prog X.w) X σ (fun cls d H' => W0 cls d σ H') := passAt takes0 σ
  refine wpAny_call (codeAny_mono (F.run A X.stack s H ⟨us, []⟩ us vs _ _ sb.room e0 (by simpa using bi s us I.kIn (by simpa using len)) rel want) fun r s' got => ?_)
  match r, got with
  | .error er, got => exact pass pins H s er s' I got
  | .ok (.ret u), got => exact I.after got
/-- len(o) -/
def rLenO (C : Addr) (sp : Sp) : List V → Hp → VK → Prop := fun xs H Q => ∃ a dx fs, xs = [.ref a] ∧ H a = some (.ins C dx fs) ∧ sp [.ref a] H (fun v H' => ∃ n : Int, v = .int n ∧ 0 ≤ n ∧ n < 2 ^ 63 ∧ Q (.int n) H') (fun _ _ _ => False)
theorem cr_lenO (me : Meth X.K C "__len__" f) (F : FnOk X.prog X.w X.K X.mg X.base (L2.CX X.prog X.w) k f fd ps sp) (bi : Binds X.K fd ps []) (room : Room (k + 1) X.A) : CallR X (.builtin "len") (rLenO C sp) := by
  intro pins s σ H xs us Q I r h
  obtain ⟨a, dx, fs, rfl, ha, q⟩ := h
  rw [Vals.ref1 r]
  obtain ⟨mA, J, _⟩ := ins_get I.hok ha
  obtain ⟨od, J, _⟩ := J.look
  obtain ⟨m, hF⟩ := I.fr
  refine PySem.W.len_K hF I.ok.mod.kin J me.at_ me.fn (wpAny_mono (run_sub (vs := [.ref a]) F bi (Sub.in1 ⟨room, rfl⟩) I (.cons rfl .nil) q) (fun v s' z => ?_) fun _ _ z => z)
  obtain ⟨x, G, J2, rx, n, rfl, n0, n1, q2⟩ := z
  obtain ⟨t, rfl⟩ := rx
  exact ⟨⟨n0, n1⟩, .int n, G, J2.tok _, ⟨_, rfl⟩, q2⟩
/-- repr(o) -/
def rReprO (C : Addr) (sp : Sp) : List V → Hp → VK → Prop := fun xs H Q => ∃ a dx fs, xs = [.ref a] ∧ H a = some (.ins C dx fs) ∧ sp [.ref a] H (fun v H' => ∃ x : Str, v = .str x ∧ Q (.str x) H') (fun _ _ _ => False)
theorem cr_reprO (me : Meth X.K C "__repr__" f) (F : FnOk X.prog X.w X.K X.mg X.base (L2.CX X.prog X.w) k f fd ps sp) (bi : Binds X.K fd ps []) (room : Room (k + 1) X.A) : CallR X (.builtin "repr") (rReprO C sp) := by
  intro pins s σ H xs us Q I r h
  obtain ⟨a, dx, fs, rfl, ha, q⟩ := h
  rw [Vals.ref1 r]
  obtain ⟨mA, J, _⟩ := ins_get I.hok ha
  obtain ⟨od, J, _⟩ := J.look
  obtain ⟨m, hF⟩ := I.fr
  have sb : L2.Sub X k X.A.in1 := Sub.in1 ⟨room, rfl⟩
  refine PySem.W.repr_K sb.room.units0 hF I.ok.mod.kin J me.at_ me.fn (wpAny_mono (run_sub (vs := [.ref a]) F bi sb I (.cons rfl .nil) q) (fun v s' z => ?_) fun _ _ z => z)
  obtain ⟨x, G, J2, rx, t, rfl, q2⟩ := z
  obtain ⟨tk, rfl⟩ := rx
  exact ⟨.str t, G, J2, ⟨_, rfl⟩, q2⟩
/-- the type of what stands on the right -/
def TyR (K : PySem.W.Frag) (C : Addr) (H : Hp) (y : V) (tb : Value) : Prop := (∃ T, tb = .type T ∧ (∃ d, tyO d = some T) ∧ TyX K H y (.type T)) ∨ (∃ b dy gs, y = .ref b ∧ H b = some (.ins C dy gs) ∧ tb = .ref C)
theorem not_first (T : String) (C : Addr) (K : PySem.W.Frag) (h : T ∈ tyNs) : PySem.W.notFirst K C (.type T) = true := by
  have e : ∀ T ∈ tyNs, ∃ l, fastBuiltinMro T = some l ∧ l.all (fun v => match v with | .type _ => true | _ => false) = true := by
    intro T hT
    simp only [tyNs, List.mem_cons, List.not_mem_nil, or_false] at hT
    rcases hT with rfl | rfl | rfl | rfl | rfl | rfl <;> exact ⟨_, by rfl, by decide +kernel⟩
  obtain ⟨l, e1, e2⟩ := e T h
  have e3 : PySem.W.subIn K (.type T) (.ref C) = some false := by
    show (fastBuiltinMro T).map (·.contains (.ref C)) = some false
    rw [e1]
    show some (l.contains (.ref C)) = some false
    congr 1
    cases hc : l.contains (Value.ref C) with
    | false => rfl
    | true =>
      have := List.contains_iff_mem.mp hc
      have := List.all_eq_true.mp e2 _ this
      cases this
  unfold PySem.W.notFirst
  rw [e3]
  simp
theorem TyR.looks {tb : Value} {y : V} {u : Value} (t : TyR X.K C H y tb) (I : L2.Inv X pins σ H s) (r : RelV y u) : PySem.W.Looks (model X.prog X.w) s.heap (typeOf u) tb ∧ PySem.W.notFirst X.K C tb = true := by
  rcases t with ⟨T, rfl, ⟨d, hd⟩, ty⟩ | ⟨b, dy, gs, rfl, hb, rfl⟩
  · refine ⟨?_, not_first T C X.K (tyO_mem hd)⟩
    cases ty with
    | base h =>
      cases h with
      | non => cases r; exact .of_pure rfl
      | bl x => cases r; exact .of_pure rfl
      | int i =>
        obtain ⟨t, rfl⟩ := r
        exact .of_pure rfl
      | str x =>
        obtain ⟨t, rfl⟩ := r
        exact .of_pure rfl
      | flt x => exact absurd (tyO_mem hd) (by decide)
      | lst e =>
        cases r
        obtain ⟨its, rv, p, _⟩ := I.list (.inl (.inl e))
        obtain ⟨o, ho, hc, n, hd⟩ := p.isList
        exact hc ▸ (PySem.W.Looks.ld ho).andThen .now
      | frz e =>
        cases r
        obtain ⟨its, rv, p, _⟩ := I.list (.inl (.inr ⟨_, e⟩))
        obtain ⟨o, ho, hc, n, hd⟩ := p.isList
        exact hc ▸ (PySem.W.Looks.ld ho).andThen .now
      | tup e =>
        cases r
        obtain ⟨its, rv, ⟨o, ho, hc, n, hd⟩, _⟩ := I.tuple (.inl (.inl e))
        exact hc ▸ (PySem.W.Looks.ld ho).andThen .now
      | dK e => exact absurd (tyO_mem hd) (by decide)
      | dT e => exact absurd (tyO_mem hd) (by decide)
    | byt b => exact absurd (tyO_mem hd) (by decide)
    | set e => exact absurd (tyO_mem hd) (by decide)
    | kList e c =>
      cases r
      have ho := I.kIn _ _ e
      exact c ▸ (PySem.W.Looks.ld ho).andThen .now
    | kTuple e c =>
      cases r
      have ho := I.kIn _ _ e
      exact c ▸ (PySem.W.Looks.ld ho).andThen .now
    | kDict e c => exact absurd (tyO_mem hd) (by decide)
    | fTuple e =>
      cases r
      obtain ⟨its, rv, ⟨o, ho, hc, n, hd⟩, _⟩ := I.tuple (.inl (.inr ⟨_, e⟩))
      exact hc ▸ (PySem.W.Looks.ld ho).andThen .now
    | fDict e => exact absurd (tyO_mem hd) (by decide)
  · cases r
    obtain ⟨mB, J, _⟩ := ins_get I.hok hb
    obtain ⟨od, J, _⟩ := J.look
    exact ⟨J.type, by simp [PySem.W.notFirst]⟩
/-- o == y -/
def rEqO (K : PySem.W.Frag) (C : Addr) (sp : Sp) : R2 := fun x y H Q => ∃ a dx fs tb, x = .ref a ∧ H a = some (.ins C dx fs) ∧ TyR K C H y tb ∧ sp [.ref a, y] H (fun v H' => ∃ b : Bool, v = .bl b ∧ Q (.bl b) H') (fun _ _ _ => False)
theorem op_eqO (me : Meth X.K C "__eq__" f) (F : FnOk X.prog X.w X.K X.mg X.base (L2.CX X.prog X.w) k f fd ps sp) (bi : Binds X.K fd ps []) (room : Room k X.A) : OpR X (compareOp .Eq) (rEqO X.K C sp) := by
  intro pins s σ H x y v u Q I rx ry h
  obtain ⟨a, dx, fs, tb, rfl, ha, ty, q⟩ := h
  rw [show v = Value.ref a from rx]
  obtain ⟨mA, J, _⟩ := ins_get I.hok ha
  obtain ⟨od, J, _⟩ := J.look
  obtain ⟨m, hF⟩ := I.fr
  obtain ⟨lk, nf⟩ := ty.looks I ry
  refine PySem.W.cmp_K (op := .Eq) room.units0 hF I.ok.mod.kin J lk nf me.at_ me.fn (wpAny_mono (run_sub (vs := [.ref a, y]) F bi ⟨room, rfl⟩ I (.cons rfl (.cons ry .nil)) q) (fun v s' z => ?_) fun _ _ z => z)
  obtain ⟨x, G, J2, rx, b, rfl, q2⟩ := z
  cases rx
  exact ⟨.bl b, G, J2, rfl, q2⟩
end
end DL

/- part -/
set_option Elab.async false
set_option linter.all false
set_option maxRecDepth 100000
set_option maxHeartbeats 1000000
namespace DL
open PySem PySem.Spec PyProof.Rows L2
section
variable {prog : Program} {w : World} {A : Around} {E : Value → Shared → Prop} {s : Shared} {K : PySem.W.Frag} {x C f L : Addr} {ox : Obj} {od : Option Obj} {b tb : Value} {h0 : Heap} {m : Str → Option Value}
theorem neBody {Q : PySem.Fin → Shared → Prop} (hu : A.units < cLine) (Z : K.In s.heap) (I : PySem.W.InstAt s.heap x ox C od) (eqf : PySem.W.findIn K (.ref C) "__eq__" = some (some (.ref f))) (isf : PySem.W.isFn K (.ref f) = true)
    (run : wpAny (model prog w) A (call (.ref f) [.ref x, b]) (fun v s' => ∃ r : Bool, v = .bool r ∧ Q (.done (.ret (.bool (!r)))) s') E s) : wpAny (model prog w) A (Builtin.«object.__ne__» ⟨[.ref x, b], []⟩) Q E s := by
  unfold Builtin.«object.__ne__»
  refine wpAny_bind (m := slotArgs "__ne__" 1 _) (wpAny_pure ?_)
  refine wpAny_bind (wpAny_cRoomFor hu ?_)
  refine wpAny_bind (m := callSpecialIfBound? (.ref x) (Str.ofString "__eq__") _) (PySem.W.ifBound_K Z I eqf isf (wpAny_mono run (fun v s' z => ?_) fun _ _ e => e))
  obtain ⟨r, rfl, q⟩ := z
  exact wpAny_bind (wpAny_truthy_bool (wpAny_pure q))
theorem neCall {Q : Value → Shared → Prop} (hu : A.in1.units < cLine) (Z : K.In s.heap) (I : PySem.W.InstAt s.heap x ox C od) (mo : PySem.W.mroIn K C (.type "object") = some true) (eqf : PySem.W.findIn K (.ref C) "__eq__" = some (some (.ref f))) (isf : PySem.W.isFn K (.ref f) = true)
    (run : wpAny (model prog w) A.in1 (call (.ref f) [.ref x, b]) (fun v s' => ∃ r : Bool, v = .bool r ∧ Q (.bool (!r)) s') E s) : wpAny (model prog w) A (call (.builtin "object.__ne__") [.ref x, b]) Q E s :=
  wpAny_call (codeAny_call_builtin F.cmp_object.ne.plain F.cmpEntry_ne (PySem.W.check_slot F.cmpKind_ne F.cmpSplit_ne (I.type.andThen (PySem.W.looks_mroIn Z mo)) (F.cmpArgs_ne _ _)
    (neBody hu Z I eqf isf (wpAny_mono run (fun v s' z => by
      obtain ⟨r, e, q⟩ := z
      exact ⟨r, e, q⟩) fun _ _ e => e))))
theorem neBound {args : List Value} {Q : Option Value → Shared → Prop} (Z : K.In s.heap) (I : PySem.W.InstAt s.heap x ox C od) (nef : PySem.W.findIn K (.ref C) "__ne__" = some (some (.builtin "object.__ne__")))
    (run : wpAny (model prog w) A (call (.builtin "object.__ne__") (.ref x :: args)) (fun v => Q (some v)) E s) : wpAny (model prog w) A (callSpecialIfBound? (.ref x) "__ne__" args) Q E s := by
  simp only [callSpecialIfBound?, bindSpecialIfBound?]
  refine wpAny_holding (wpAny_bind (wpAny_bind (wpAny_bind (I.type.here ((PySem.W.looks_findIn Z nef).here ?_)))))
  refine wpAny_bind (wpAny_askSetting (wpAny_ite ?_))
  have last : wpAny (model prog w) A (call (.builtin "object.__ne__") ([.ref x] ++ args) >>= fun v => pure (some v)) Q E s := wpAny_bind (wpAny_mono run (fun v s' z => wpAny_pure z) fun _ _ z => z)
  split
  · exact wpAny_bind (wpAny_of_eq (F.cmp_object.ne.bind _) (wpAny_pure (by exact last)))
  · exact wpAny_tryCatch (wpAny_bind (wpAny_of_eq (F.cmp_object.ne.bind _) (wpAny_pure (by exact last))))
theorem neK {Q : Value → Shared → Prop} (hu : A.units < cLine) (hu1 : A.in1.units < cLine) (hF : Fr h0 L s.heap m) (X0 : K.In h0) (I : PySem.W.InstAt s.heap x ox C od) (lk : PySem.W.Looks (model prog w) s.heap (typeOf b) tb) (nf : PySem.W.notFirst K C tb = true)
    (mo : PySem.W.mroIn K C (.type "object") = some true) (nef : PySem.W.findIn K (.ref C) "__ne__" = some (some (.builtin "object.__ne__"))) (eqf : PySem.W.findIn K (.ref C) "__eq__" = some (some (.ref f))) (isf : PySem.W.isFn K (.ref f) = true)
    (run : wpAny (model prog w) A.in1 (call (.ref f) [.ref x, b]) (fun v s' => ∃ r : Bool, v = .bool r ∧ Q (.bool (!r)) s') E s) : wpAny (model prog w) A (richCompare .NotEq (.ref x) b) Q E s := by
  have Z := X0.keeps hF.keep
  have one : wpAny (model prog w) A (tryCompare (.ref x) "__ne__" b) (fun r s' => ∃ v, r = some v ∧ Q v s') E s := by
    unfold tryCompare
    refine wpAny_bind (neBound Z I nef (neCall hu1 Z I mo eqf isf (wpAny_mono run (fun v s' z => ?_) fun _ _ e => e)))
    obtain ⟨r, e, q⟩ := z
    exact ⟨r, e, wpAny_pure ⟨_, rfl, q⟩⟩
  unfold richCompare
  simp only [oneThing_ref]
  refine wpAny_holding (wpAny_bind (wpAny_cRoomFor hu ?_))
  refine wpAny_bind (I.type.here (wpAny_bind (lk.here ?_)))
  split
  · rename_i q
    have e : PySem.W.subIn K tb (.ref C) = some false := by
      rcases Bool.or_eq_true_iff.mp nf with e | e
      · rw [beq_iff_eq.mp e] at q
        simp at q
      · exact beq_iff_eq.mp e
    refine wpAny_bind ((PySem.W.looks_subIn Z e).here ?_)
    simp only [Bool.false_eq_true, if_false]
    refine wpAny_bind (wpAny_mono one (fun r s' z => ?_) fun _ _ e => e)
    obtain ⟨v, rfl, got⟩ := z
    exact wpAny_pure got
  · refine wpAny_bind (wpAny_pure ?_)
    simp only [Bool.false_eq_true, if_false]
    refine wpAny_bind (wpAny_mono one (fun r s' z => ?_) fun _ _ e => e)
    obtain ⟨v, rfl, got⟩ := z
    exact wpAny_pure got
end
section
variable {X : Cx} {pins : List (Addr × Obj)} {σ : L2.St} {H : Hp} {s : Shared} {Q : VK} {us : List Value} {vs : List V} {k : Nat} {C f a : Addr} {fd : FuncData} {ps : List Str} {sp : Sp} {A : Around}
/-- o != y -/
def rNeO (K : PySem.W.Frag) (C : Addr) (sp : Sp) : R2 := fun x y H Q => ∃ a dx fs tb, x = .ref a ∧ H a = some (.ins C dx fs) ∧ TyR K C H y tb ∧ sp [.ref a, y] H (fun v H' => ∃ b : Bool, v = .bl b ∧ Q (.bl (!b)) H') (fun _ _ _ => False)
theorem op_neO (me : Meth X.K C "__eq__" f) (mo : PySem.W.mroIn X.K C (.type "object") = some true) (nef : PySem.W.findIn X.K (.ref C) "__ne__" = some (some (.builtin "object.__ne__"))) (F : FnOk X.prog X.w X.K X.mg X.base (L2.CX X.prog X.w) k f fd ps sp) (bi : Binds X.K fd ps []) (room : Room (k + 1) X.A) : OpR X (compareOp .NotEq) (rNeO X.K C sp) := by
  intro pins s σ H x y v u Q I rx ry h
  obtain ⟨a, dx, fs, tb, rfl, ha, ty, q⟩ := h
  rw [show v = Value.ref a from rx]
  obtain ⟨mA, J, _⟩ := ins_get I.hok ha
  obtain ⟨od, J, _⟩ := J.look
  obtain ⟨m, hF⟩ := I.fr
  obtain ⟨lk, nf⟩ := ty.looks I ry
  have sb : L2.Sub X k X.A.in1 := Sub.in1 ⟨room, rfl⟩
  refine neK room.units0 sb.room.units0 hF I.ok.mod.kin J lk nf mo nef me.at_ me.fn (wpAny_mono (run_sub (vs := [.ref a, y]) F bi sb I (.cons rfl (.cons ry .nil)) q) (fun v s' z => ?_) fun _ _ z => z)
  obtain ⟨x, G, J2, rx, b, rfl, q2⟩ := z
  cases rx
  exact ⟨b, rfl, .bl (!b), G, J2, rfl, q2⟩
end
end DL

/- part -/
set_option Elab.async false
set_option linter.all false
set_option maxRecDepth 100000
set_option maxHeartbeats 1000000
namespace DL
open PySem PySem.Spec PyProof.Rows L2
/-! ### own special methods, as data -/
def lenB (r : R RV) (ρ : SE) : R RV := match r with
  | .ok (.im (.int n)) _ => if 0 ≤ n ∧ n < 2 ^ 62 then .ok (.im (.int n)) ρ else .bad
  | _ => .bad
def strB (r : R RV) (ρ : SE) : R RV := match r with
  | .ok (.im (.str x)) _ => .ok (.im (.str x)) ρ
  | _ => .bad
def blB (g : Bool → Bool) (r : R RV) (ρ : SE) : R RV := match r with
  | .ok (.im (.bl b)) _ => .ok (.im (.bl (g b))) ρ
  | _ => .bad
def dLenO (c : Str) (mm : SE → R RV) (ms : DM (List AV)) : DM RV := fun ρ => (ms ρ).bind fun as ρ1 => match as with
  | [.d (.obj c' fs)] => if c' = c then lenB (mm [.im (.obj c' fs)]) ρ1 else .bad
  | _ => .bad
def dReprO (c : Str) (mm : SE → R RV) (ms : DM (List AV)) : DM RV := fun ρ => (ms ρ).bind fun as ρ1 => match as with
  | [.d (.obj c' fs)] => if c' = c then strB (mm [.im (.obj c' fs)]) ρ1 else .bad
  | _ => .bad
def tyOk (c : Str) : D → Bool
  | .obj c' _ => decide (c' = c)
  | e => (tyO e).isSome
def eqB (g : Bool → Bool) (c : Str) (mm : SE → R RV) (d e : D) (ρ : SE) : R RV := match d with
  | .obj c' fs => if c' = c ∧ tyOk c e = true then blB g (mm [.im (.obj c' fs), .im e]) ρ else .bad
  | _ => .bad
def dCmpO (g : Bool → Bool) (c : Str) (mm : SE → R RV) (ma mb : DM RV) : DM RV := fun ρ => (dFz ma ρ).bind fun d ρ1 => (dFz mb ρ1).bind fun e ρ2 => eqB g c mm d e ρ2
section
variable {M : Mx} {W : WX} {X : Cx} {F H F' H' F1 H1 F2 H2 H0 : Hp} {σ : L2.St} {ρ ρ1 ρ2 : SE}
variable {P : Program} {w : World} {base : Heap} {N : List Str} {sc : Scope} {j k : Nat}
variable {a b c e : Expr} {ma mb m : DM RV} {es : List Expr} {ms : DM (List AV)} {pos p p' q : Pos} {cl : Str} {mm : SE → R RV}
theorem post_one {d : D} {v : V} {g : V → Hp → Prop} {r : RV} {svs : SE} (sm : Sim M F H σ ρ) (rep : Rep M F v d) (e : mm [.im d] = .ok r svs) (nb : notBo r = true) (h : ∀ F' H' v, Stp F H σ ρ F' H' σ ρ → Sim M F' H' σ ρ → RvOk M H F' H' σ ρ v r → g v H') :
    spD M 1 mm [v] H g (fun _ _ _ => False) := by
  refine call_sp (W := W0) (σ := σ) (ρ := ρ) (F1 := F) (as := [.d d]) (.cons rep .nil) sm rfl ?_
  rw [callR_1, e, retR_okA, if_pos nb]
  exact fun F' H' v st sm ok => h F' H' v st sm ok
theorem de_lenO (C : CxD P w base M N sc j X W) (Ca : MCal P w base M cl "__len__" k 1 mm) (h : GlOk sc "len") (hm : M.mg "len" = none) (hk : k + 1 ≤ j) (ha : DA X M W [a] ms) (he : starEach [a] X.env = (false, eval a X.env) :: starEach [] X.env := by rfl) :
    DE X M W (.Call (.Name "len" p) [a] [] pos) (dLenO cl mm ms) := by
  obtain ⟨f, fd, ps, cc, me, bi, ok⟩ := Ca
  obtain ⟨t, pa, qa⟩ := ha
  have hP := C.hP
  have hw := C.hw
  have hB := C.hB
  subst hP hw hB
  have me2 := me
  rw [C.hK] at me2 bi
  rw [C.hK, C.hM] at ok
  refine ⟨_, pe_callB (cr_lenO me2 ok bi (C.hr.mono hk)) (C.glo h) (by rw [← C.hM]; exact hm) PySem.boot_len pa h.nn h.nd he, fun σ H F ρ Q sm h => ?_⟩
  refine qa σ H F ρ _ sm (PostA.goE h fun as ρ1 F1 H1 vs _ st1 sm1 ok1 h1 => ?_)
  split at h1
  · rename_i c' fs _
    split at h1
    · rename_i hc
      subst hc
      cases ok1 with
      | @cons v _ vs _ r1 r2 =>
        cases r2
        have r1 : Rep M F1 v (.obj c' fs) := r1
        have r0 := r1
        cases r0 with
        | @obj ad dx _ ws _ g1 g2 g3 =>
          unfold lenB at h1
          split at h1
          · rename_i n svs e
            split at h1
            · rename_i hn
              refine ⟨ad, dx, ws, rfl, sm1.sub.go _ _ g1, post_one sm1 r1 e rfl fun F' H' v st sm ok => ?_⟩
              have ok : Rep M F' v (.int n) := ok
              cases ok
              exact ⟨n, rfl, hn.1, by omega, h1 F' H' _ (st1.trans st) sm (.int n)⟩
            · exact h1.elim
          · exact h1.elim
    · exact h1.elim
  · exact h1.elim
theorem de_reprO (C : CxD P w base M N sc j X W) (Ca : MCal P w base M cl "__repr__" k 1 mm) (h : GlOk sc "repr") (hm : M.mg "repr" = none) (hk : k + 1 ≤ j) (ha : DA X M W [a] ms) (he : starEach [a] X.env = (false, eval a X.env) :: starEach [] X.env := by rfl) :
    DE X M W (.Call (.Name "repr" p) [a] [] pos) (dReprO cl mm ms) := by
  obtain ⟨f, fd, ps, cc, me, bi, ok⟩ := Ca
  obtain ⟨t, pa, qa⟩ := ha
  have hP := C.hP
  have hw := C.hw
  have hB := C.hB
  subst hP hw hB
  have me2 := me
  rw [C.hK] at me2 bi
  rw [C.hK, C.hM] at ok
  refine ⟨_, pe_callB (cr_reprO me2 ok bi (C.hr.mono hk)) (C.glo h) (by rw [← C.hM]; exact hm) (by decide +kernel) pa h.nn h.nd he, fun σ H F ρ Q sm h => ?_⟩
  refine qa σ H F ρ _ sm (PostA.goE h fun as ρ1 F1 H1 vs _ st1 sm1 ok1 h1 => ?_)
  split at h1
  · rename_i c' fs _
    split at h1
    · rename_i hc
      subst hc
      cases ok1 with
      | @cons v _ vs _ r1 r2 =>
        cases r2
        have r1 : Rep M F1 v (.obj c' fs) := r1
        have r0 := r1
        cases r0 with
        | @obj ad dx _ ws _ g1 g2 g3 =>
          unfold strB at h1
          split at h1
          · rename_i x svs e
            refine ⟨ad, dx, ws, rfl, sm1.sub.go _ _ g1, post_one sm1 r1 e rfl fun F' H' v st sm ok => ?_⟩
            have ok : Rep M F' v (.str x) := ok
            cases ok
            exact ⟨x, rfl, h1 F' H' _ (st1.trans st) sm (.str x)⟩
          · exact h1.elim
    · exact h1.elim
  · exact h1.elim
theorem post_two {d e : D} {v u : V} {g : V → Hp → Prop} {r : RV} {svs : SE} (sm : Sim M F H σ ρ) (r1 : Rep M F v d) (r2 : Rep M F u e) (q : mm [.im d, .im e] = .ok r svs) (nb : notBo r = true) (h : ∀ F' H' v, Stp F H σ ρ F' H' σ ρ → Sim M F' H' σ ρ → RvOk M H F' H' σ ρ v r → g v H') :
    spD M 2 mm [v, u] H g (fun _ _ _ => False) := by
  refine call_sp (W := W0) (σ := σ) (ρ := ρ) (F1 := F) (as := [.d d, .d e]) (.cons r1 (.cons r2 .nil)) sm rfl ?_
  rw [callR_2, q, retR_okA, if_pos nb]
  exact fun F' H' v st sm ok => h F' H' v st sm ok
theorem tyR_of {C : Addr} {y : V} {d : D} (sub : SubF F H) (r : Rep M F y d) (h : tyOk cl d = true) : ∃ tb, TyR M.K (M.ca cl) H y tb := by
  have flat : ∀ T, tyO d = some T → unl d = d → ∃ tb, TyR M.K (M.ca cl) H y tb := fun T hT hu => by
    have vw := Vw.of sub r
    rw [hu] at vw
    exact ⟨_, .inl ⟨T, rfl, ⟨d, hT⟩, tyx_of sub vw hT⟩⟩
  cases d with
  | obj c' fs =>
    have e : c' = cl := of_decide_eq_true h
    subst e
    cases r with
    | obj g1 g2 g3 => exact ⟨_, .inr ⟨_, _, _, rfl, sub.go _ _ g1, rfl⟩⟩
  | tl n ds => cases h
  | fn x => cases h
  | exc c fs => cases h
  | _ => exact flat _ rfl rfl
theorem q_cmpO {ta tb : TE} {g : Bool → Bool} {r : R2} (qa : ∀ σ H F ρ Q, Sim M F H σ ρ → Post M W σ ρ F H (ma ρ) Q → ta σ H Q) (qb : ∀ σ H F ρ Q, Sim M F H σ ρ → Post M W σ ρ F H (mb ρ) Q → tb σ H Q)
    (hr : ∀ (x y : V) H Q, (∃ a dx fs tb, x = .ref a ∧ H a = some (.ins (M.ca cl) dx fs) ∧ TyR M.K (M.ca cl) H y tb ∧ spD M 2 mm [.ref a, y] H (fun v H' => ∃ b : Bool, v = .bl b ∧ Q (.bl (g b)) H') (fun _ _ _ => False)) → r x y H Q) :
    ∀ σ H F ρ Q, Sim M F H σ ρ → Post M W σ ρ F H (dCmpO g cl mm ma mb ρ) Q → tOp r ta tb σ H Q := fun σ H F ρ Q sm h => by
  refine qa σ H F ρ _ sm (PostD.go (PostD.step (P := fun r => Post M W σ ρ F H r Q) (fun z => z) (fun e ρ' z => z) h fun d ρ1 F1 H1 v st1 sm1 r1 h1 => ?_))
  refine qb σ H1 F1 ρ1 _ sm1 (PostD.go (PostD.step (P := fun r => Post M W σ ρ1 F1 H1 r Q) (fun z => z) (fun e ρ' z => z) (Post.from st1 h1) fun e ρ2 F2 H2 u st2 sm2 r2 h2 => ?_))
  have h3 := Post.from st2 h2
  clear h2 h1 h
  unfold eqB at h3
  split at h3
  · rename_i c' fs
    split at h3
    · rename_i hc
      obtain ⟨hc, ht⟩ := hc
      subst hc
      have r3 := Rep.up st2.same r1
      have r0 := r3
      cases r0 with
      | @obj ad dx _ ws _ g1 g2 g3 =>
        obtain ⟨tb, ty⟩ := tyR_of (C := M.ca c') sm2.sub r2 ht
        unfold blB at h3
        split at h3
        · rename_i b svs e1
          refine hr _ _ H2 Q ⟨ad, dx, ws, tb, rfl, sm2.sub.go _ _ g1, ty, post_two sm2 r3 r2 e1 rfl fun F' H' v st sm ok => ?_⟩
          have ok : Rep M F' v (.bl b) := ok
          cases ok
          exact ⟨b, rfl, h3 F' H' _ st sm (.bl _)⟩
        · exact h3.elim
    · exact h3.elim
  · exact h3.elim
theorem de_eqO (C : CxD P w base M N sc j X W) (Ca : MCal P w base M cl "__eq__" k 2 mm) (hk : k ≤ j) (ha : DE X M W a ma) (hb : DE X M W b mb) : DE X M W (.Compare a [.Eq] [b] pos) (dCmpO id cl mm ma mb) := by
  obtain ⟨f, fd, ps, cc, me, bi, ok⟩ := Ca
  obtain ⟨ta, pa, qa⟩ := ha
  obtain ⟨tb, pb, qb⟩ := hb
  have hP := C.hP
  have hw := C.hw
  have hB := C.hB
  subst hP hw hB
  have me2 := me
  rw [C.hK] at me2 bi
  rw [C.hK, C.hM] at ok
  exact ⟨_, pe_cmpR (op_eqO me2 ok bi (C.hr.mono hk)) pa pb (nomark _), q_cmpO qa qb fun x y H Q z => by rw [← C.hK]; exact z⟩
theorem dt_eqO (C : CxD P w base M N sc j X W) (Ca : MCal P w base M cl "__eq__" k 2 mm) (hk : k ≤ j) (ha : DE X M W a ma) (hb : DE X M W b mb) : DT X M W (.Compare a [.Eq] [b] pos) (fun ρ => (dCmpO id cl mm ma mb ρ).bind asB) := by
  obtain ⟨f, fd, ps, cc, me, bi, ok⟩ := Ca
  obtain ⟨ta, pa, qa⟩ := ha
  obtain ⟨tb, pb, qb⟩ := hb
  have hP := C.hP
  have hw := C.hw
  have hB := C.hB
  subst hP hw hB
  have me2 := me
  rw [C.hK] at me2 bi
  rw [C.hK, C.hM] at ok
  exact dt_mk (q_cmpO qa qb fun x y H Q z => by rw [← C.hK]; exact z) (pt_cmpR (op_eqO me2 ok bi (C.hr.mono hk)) pa pb (nomark _))
/-- != is the one of object -/
structure NeAt (M : Mx) (c : Str) : Prop where
  mo : PySem.W.mroIn M.K (M.ca c) (.type "object") = some true
  ne : PySem.W.findIn M.K (.ref (M.ca c)) "__ne__" = some (some (.builtin "object.__ne__"))
theorem de_neO (C : CxD P w base M N sc j X W) (Ca : MCal P w base M cl "__eq__" k 2 mm) (Ne : NeAt M cl) (hk : k + 1 ≤ j) (ha : DE X M W a ma) (hb : DE X M W b mb) : DE X M W (.Compare a [.NotEq] [b] pos) (dCmpO not cl mm ma mb) := by
  obtain ⟨f, fd, ps, cc, me, bi, ok⟩ := Ca
  obtain ⟨ta, pa, qa⟩ := ha
  obtain ⟨tb, pb, qb⟩ := hb
  have hP := C.hP
  have hw := C.hw
  have hB := C.hB
  subst hP hw hB
  obtain ⟨mo, ne⟩ := Ne
  have me2 := me
  rw [C.hK] at me2 bi mo ne
  rw [C.hK, C.hM] at ok
  exact ⟨_, pe_cmpR (op_neO me2 mo ne ok bi (C.hr.mono hk)) pa pb (nomark _), q_cmpO qa qb fun x y H Q z => by rw [← C.hK]; exact z⟩
theorem dt_neO (C : CxD P w base M N sc j X W) (Ca : MCal P w base M cl "__eq__" k 2 mm) (Ne : NeAt M cl) (hk : k + 1 ≤ j) (ha : DE X M W a ma) (hb : DE X M W b mb) : DT X M W (.Compare a [.NotEq] [b] pos) (fun ρ => (dCmpO not cl mm ma mb ρ).bind asB) := by
  obtain ⟨f, fd, ps, cc, me, bi, ok⟩ := Ca
  obtain ⟨ta, pa, qa⟩ := ha
  obtain ⟨tb, pb, qb⟩ := hb
  have hP := C.hP
  have hw := C.hw
  have hB := C.hB
  subst hP hw hB
  obtain ⟨mo, ne⟩ := Ne
  have me2 := me
  rw [C.hK] at me2 bi mo ne
  rw [C.hK, C.hM] at ok
  exact dt_mk (q_cmpO qa qb fun x y H Q z => by rw [← C.hK]; exact z) (pt_cmpR (op_neO me2 mo ne ok bi (C.hr.mono hk)) pa pb (nomark _))
/-! isinstance(x, C) of an own class -/
structure InAt (M : Mx) (c : Str) : Prop where
  g : M.mg c = some (.ref (M.ca c))
  ic : C8.InsC M.K (M.ca c)
  kt : ∀ T ∈ tyNs, PySem.W.kitOne M.K (.type T) (.ref (M.ca c)) = some false
def isiO (c : Str) : D → Option RV
  | .obj c' _ => if c' = c then some (.im (.bl true)) else none
  | d => (tyO d).map fun _ => .im (.bl false)
theorem de_isiO (C : CxD P w base M N sc j X W) (I : InAt M cl) (h : GlOk sc "isinstance") (hm : M.mg "isinstance" = none) (h2 : GlOk sc cl) (ha : DE X M W a ma)
    (hs : starEach (a :: [.Name cl p']) X.env = (false, eval a X.env) :: starEach [.Name cl p'] X.env := by rfl) (hpl : (backTo pos (starEach [.Name cl p'] X.env)).any (·.1) = false := by rfl) :
    DE X M W (.Call (.Name "isinstance" p) [a, .Name cl p'] [] pos) (dOp1 (isiO cl) ma) := by
  obtain ⟨ta, pa, qa⟩ := ha
  have hm' : X.mg "isinstance" = none := by rw [← C.hM]; exact hm
  have g' : X.mg cl = some (.ref (M.ca cl)) := by rw [← C.hM]; exact I.g
  refine ⟨_, pe_callB call_isi (C.glo h) hm' PyProof.Rows.boot_isinstance (pa_cons pa (pa_cons (pe_glob (v := .ref (M.ca cl)) (C.glo h2) g' rfl h2.nd) pa_nil rfl) hs) h.nn h.nd hs hpl, fun σ H F ρ Q sm h => ?_⟩
  refine qa σ H F ρ _ sm (Post.go h fun v ρ1 F1 H1 u _ st1 sm1 ok1 h1 => ?_)
  obtain ⟨rv, e, k⟩ := Post.fin' h1 st1 sm1
  obtain ⟨d, l1, hg⟩ := bind_some1 e
  have vw := ok1.view0 sm1 l1
  have rest : ∀ T, tyO d = some T → rv = .im (.bl false) → rIsi X.K [u, .ref (M.ca cl)] H1 Q := fun T hT hr => by
    have ty := tyx_of sm1.sub vw hT
    have kk := I.kt T (tyO_mem hT)
    subst hr
    rw [C.hK] at ty kk
    exact ⟨_, _, _, _, _, rfl, .own _, ty, kk, k _ _ _ (Alc.refl sm1.sub) RvNew.bl⟩
  cases d with
  | obj c' fs =>
    have hg : (if c' = cl then some (RV.im (.bl true)) else none) = some rv := hg
    split at hg
    · rename_i hc
      have hg := Option.some.inj hg
      subst hg
      subst hc
      obtain ⟨ad, dx, ws, rfl, g1, g2, g3⟩ := vw
      have ic := I.ic
      rw [C.hK] at ic
      exact ⟨_, _, _, _, true, rfl, .own _, .base (.ins g1 ic.cl ic.ha ic.hn ic.htk ic.hm), ic.me, k _ _ _ (Alc.refl sm1.sub) RvNew.bl⟩
    · cases hg
  | tl n ds => cases hg
  | fn x => cases hg
  | exc c fs => cases hg
  | _ =>
    cases hg
    exact rest _ rfl rfl
end
end DL

/- part -/
set_option Elab.async false
set_option linter.all false
set_option maxRecDepth 100000
set_option maxHeartbeats 1000000
namespace DL
open PySem PySem.Spec PyProof.Rows L2
/-! ### a slot lends its list to an expression that only looks -/
mutual
def tlF (n : Nat) : D → Bool
  | .tl m ds => (m != n) && tlFs n ds
  | .tup ds => tlFs n ds
  | .lst ds => tlFs n ds
  | .obj _ fs => tlFf n fs
  | .exc _ fs => tlFf n fs
  | .non => true
  | .bl _ => true
  | .int _ => true
  | .str _ => true
  | .scr _ => true
  | .fn _ => true
def tlFs (n : Nat) : List D → Bool
  | [] => true
  | d :: r => tlF n d && tlFs n r
def tlFf (n : Nat) : List (Str × D) → Bool
  | [] => true
  | (_, d) :: r => tlF n d && tlFf n r
end
def ocF (n : Nat) : OC → Bool
  | .ls ds => tlFs n ds
  | .ob _ fs => tlFf n fs
def svF (n : Nat) : SV → Bool
  | .no => true
  | .im d => tlF n d
  | .ow _ oc => ocF n oc
def rvF (n : Nat) : RV → Bool
  | .im d => tlF n d
  | .ow oc => ocF n oc
  | .bo _ => true
/-- without what stands at a -/
def offF (F : Hp) (a : Addr) : Hp := fun b => if b = a then none else F b
theorem offF_ne {F : Hp} {a b : Addr} (h : b ≠ a) : offF F a b = F b := if_neg h
theorem offF_at {F : Hp} {a b : Addr} {o : HO} (h : offF F a b = some o) : b ≠ a ∧ F b = some o := by
  unfold offF at h
  split at h
  · cases h
  · exact ⟨‹_›, h⟩
theorem bw_inj {n m : Nat} {vs ws : List V} (h : bw n vs = bw m ws) : n = m ∧ vs = ws := by
  unfold bw at h
  have h1 := HO.frz.inj h
  have h2 := HO.frz.inj h1.2
  have h3 := HO.tup.inj h2.2
  have h4 := List.cons.inj h3
  exact ⟨Int.ofNat.inj (V.int.inj h4.1), h4.2⟩
section
variable {M : Mx} {F H F' H' F1 H1 : Hp} {a : Addr} {n : Nat} {vs : List V}
theorem off_go {b : Addr} {o : HO} (hb : F a = some (bw n vs)) (e : F b = some o) (h : ∀ ws, o ≠ bw n ws) : offF F a b = some o := by
  rw [offF_ne]
  · exact e
  · intro z
    subst z
    rw [hb] at e
    exact h vs (Option.some.inj e).symm
theorem off_sqT {b : Addr} {xs : List V} (hb : F a = some (bw n vs)) (h : SqT M.K F b xs) : SqT M.K (offF F a) b xs := by
  rcases h with (z | ⟨o, z⟩) | z
  · exact .inl (.inl (off_go hb z fun ws q => by cases q))
  · exact .inl (.inr ⟨o, off_go hb z fun ws q => by cases q⟩)
  · exact .inr z
theorem off_sqL {b : Addr} {xs : List V} (hb : F a = some (bw n vs)) (h : SqL M.K F b xs) : SqL M.K (offF F a) b xs := by
  rcases h with (z | ⟨o, z⟩) | z
  · exact .inl (.inl (off_go hb z fun ws q => by cases q))
  · exact .inl (.inr ⟨o, off_go hb z fun ws q => by cases q⟩)
  · exact .inr z
mutual
theorem off_rep (hb : F a = some (bw n vs)) : ∀ (d : D) (v : V), Rep M F v d → tlF n d = true → Rep M (offF F a) v d
  | .non, _, h, _ => by
    cases h
    exact .non
  | .bl b, _, h, _ => by
    cases h
    exact .bl _
  | .int b, _, h, _ => by
    cases h
    exact .int _
  | .str b, _, h, _ => by
    cases h
    exact .str _
  | .tup ds, _, h, f => by
    cases h with
    | tup h1 h2 => exact .tup (off_sqT hb h1) (off_reps hb ds _ h2 (by unfold tlF at f; exact f))
  | .lst ds, _, h, f => by
    cases h with
    | lst h1 h2 => exact .lst (off_go hb h1 fun ws q => by cases q) (off_reps hb ds _ h2 (by unfold tlF at f; exact f))
  | .scr ns, _, h, _ => by
    cases h with
    | scr h1 => exact .scr (off_sqL hb h1)
  | .obj c fs, _, h, f => by
    cases h with
    | obj h1 h2 h3 => exact .obj (off_go hb h1 fun ws q => by cases q) (off_repf hb fs _ h2 (by unfold tlF at f; exact f)) h3
  | .fn x, _, h, _ => by
    cases h with
    | fn h1 => exact .fn h1
  | .tl m ds, _, h, f => by
    cases h with
    | tl h1 h2 =>
      unfold tlF at f
      obtain ⟨f1, f2⟩ := Bool.and_eq_true_iff.mp f
      exact .tl (off_go hb h1 fun ws q => by
        have := (bw_inj q).1
        subst this
        simp at f1) (off_reps hb ds _ h2 f2)
  | .exc c fs, _, h, f => by
    cases h with
    | exc h1 h2 h3 h4 h5 h6 => exact .exc (off_go hb h1 fun ws q => by cases q) h2 h3 (off_go hb h4 fun ws q => by cases q) (off_repf hb fs _ h5 (by unfold tlF at f; exact f)) h6
theorem off_reps (hb : F a = some (bw n vs)) : ∀ (ds : List D) (ws : List V), Reps M F ws ds → tlFs n ds = true → Reps M (offF F a) ws ds
  | [], _, h, _ => by
    cases h
    exact .nil
  | d :: ds, _, h, f => by
    cases h with
    | cons r t =>
      unfold tlFs at f
      obtain ⟨f1, f2⟩ := Bool.and_eq_true_iff.mp f
      exact .cons (off_rep hb d _ r f1) (off_reps hb ds _ t f2)
theorem off_repf (hb : F a = some (bw n vs)) : ∀ (fs : List (Str × D)) (ws : List (Str × V)), RepF M F ws fs → tlFf n fs = true → RepF M (offF F a) ws fs
  | [], _, h, _ => by
    cases h
    exact .nil
  | (f, d) :: fs, _, h, q => by
    cases h with
    | cons r t =>
      unfold tlFf at q
      obtain ⟨f1, f2⟩ := Bool.and_eq_true_iff.mp q
      exact .cons (off_rep hb d _ r f1) (off_repf hb fs _ t f2)
end
theorem off_oc {o : HO} {oc : OC} (hb : F a = some (bw n vs)) (r : OcRep M F o oc) (f : ocF n oc = true) : OcRep M (offF F a) o oc := by
  cases r with
  | ls r => exact .ls (off_reps hb _ _ r f)
  | ob r k => exact .ob (off_repf hb _ _ r f) k
end
def lendR (n i : Nat) (io : Bool) (xs : List D) : R RV → R RV
  | .bad => .bad
  | .ok r ρ' => if (rvF n r && (ρ'.set i .no).all (svF n)) = true then .ok r (ρ'.set i (.ow io (.ls xs))) else .bad
  | .ex e ρ' => if (tlFf n e.fs && (ρ'.set i .no).all (svF n)) = true then .ex e (ρ'.set i (.ow io (.ls xs))) else .bad
/-- m, where slot i's list is looked at only -/
def dLend (i n : Nat) (m : DM RV) : DM RV := fun ρ => match ρ[i]? with
  | some (.ow io (.ls xs)) => lendR n i io xs (m (ρ.set i (.im (.tl n xs))))
  | _ => .bad
section
variable {M : Mx} {W : WX} {F H F' H' F1 H1 : Hp} {σ : L2.St} {ρ ρ' : SE} {a : Addr} {n i : Nat} {vs : List V} {xs : List D} {io : Bool}
theorem bw_nt {n : Nat} {vs : List V} : ∀ ps, bw n vs ≠ .tbl ps := fun ps z => by cases z
theorem lend_in (sm : Sim M F H σ ρ) (hi : ρ[i]? = some (.ow io (.ls xs))) (hx : σ[i]? = some (some (V.ref a))) (hH : H a = some (.lst vs)) (hF : F a = none) (r : Reps M F vs xs) :
    Sim M (upd F a (bw n vs)) H σ (ρ.set i (.im (.tl n xs))) := by
  have up := same_upd (o := bw n vs) hF
  refine ⟨⟨⟨fun b o e nb => ?_, fun b m ws e => ?_⟩, sm.ntb.upd bw_nt⟩, sm.tabs, by rw [List.length_set]; exact sm.len, fun j d e => ?_, fun j io' oc e => ?_, fun j l b hj hl => ?_⟩
  · by_cases hb : b = a
    · subst hb
      rw [upd_same] at e
      exact (nb n vs (Option.some.inj e).symm).elim
    · rw [upd_ne hb] at e
      exact sm.sub.go _ _ e nb
  · by_cases hb : b = a
    · subst hb
      rw [upd_same] at e
      rw [← (bw_inj (Option.some.inj e)).2]
      exact hH
    · rw [upd_ne hb] at e
      exact sm.sub.bk _ _ _ e
  · by_cases hj : j = i
    · subst hj
      cases set_eq e
      exact ⟨_, hx, .tl upd_same (r.up up)⟩
    · rw [set_ne hj] at e
      obtain ⟨v, e1, r⟩ := sm.im j d e
      exact ⟨v, e1, r.up up⟩
  · by_cases hj : j = i
    · subst hj
      cases set_eq e
    · rw [set_ne hj] at e
      obtain ⟨b, o, e1, e2, e3, e4⟩ := sm.ow j io' oc e
      refine ⟨b, o, e1, e2, ?_, e4.up up⟩
      rw [upd_ne]
      · exact e3
      · intro z
        subst z
        exact hj (sm.inj j i _ ⟨io', oc, e⟩ ⟨io, _, hi⟩ e1 hx)
  · have w : ∀ j, isOw (ρ.set i (.im (.tl n xs))) j → isOw ρ j := fun j ⟨io, es, e⟩ => by
      by_cases hj : j = i
      · subst hj
        cases set_eq e
      · rw [set_ne hj] at e
        exact ⟨io, es, e⟩
    exact sm.inj j l b (w j hj) (w l hl)
theorem lend_out (sm : Sim M F H σ ρ) (hi : ρ[i]? = some (.ow io (.ls xs))) (hx : σ[i]? = some (some (V.ref a))) (hF : F a = none) (r : Reps M F vs xs)
    (st : Stp (upd F a (bw n vs)) H σ (ρ.set i (.im (.tl n xs))) F' H' σ ρ') (sm' : Sim M F' H' σ ρ') (fr : (ρ'.set i .no).all (svF n) = true) :
    Stp F H σ ρ (offF F' a) H' σ (ρ'.set i (.ow io (.ls xs))) ∧ Sim M (offF F' a) H' σ (ρ'.set i (.ow io (.ls xs))) ∧ F' a = some (bw n vs) := by
  have at_ : F' a = some (bw n vs) := st.same _ _ upd_same
  have lenE : ρ'.length = ρ.length := by rw [← sm'.len, ← sm.len]
  have lt : i < ρ.length := by
    by_cases h : i < ρ.length
    · exact h
    · rw [List.getElem?_eq_none (by omega)] at hi
      cases hi
  have at_i : (ρ'.set i (.ow io (.ls xs)))[i]? = some (.ow io (.ls xs)) := by rw [List.getElem?_set_self (by omega)]
  have same : Same F (offF F' a) := fun b o e => by
    have hb : b ≠ a := fun z => by
      subst z
      rw [hF] at e
      cases e
    rw [offF_ne hb]
    exact st.same _ _ (by rw [upd_ne hb]; exact e)
  have free : ∀ j sv, j ≠ i → ρ'[j]? = some sv → svF n sv = true := fun j sv hj e => by
    refine List.all_eq_true.mp fr sv (List.mem_iff_getElem?.mpr ⟨j, ?_⟩)
    rw [set_ne hj]
    exact e
  have own_a : Own σ ρ a := ⟨i, ⟨io, _, hi⟩, hx⟩
  have ownB : ∀ b, Own σ (ρ'.set i (.ow io (.ls xs))) b → b = a ∨ Own σ ρ' b := fun b ⟨j, ⟨io', oc, e⟩, e2⟩ => by
    by_cases hj : j = i
    · subst hj
      rw [hx] at e2
      cases e2
      exact .inl rfl
    · rw [set_ne hj] at e
      exact .inr ⟨j, ⟨io', oc, e⟩, e2⟩
  refine ⟨⟨same, fun b o e no nt => st.keep b o e (fun z => no (own_set z)) nt, fun b z => ?_, fun b o e => ?_, st.dom, fun j oc e => ?_, fun j oc e => ?_⟩, ⟨⟨⟨fun b o e nb => ?_, fun b m ws e => ?_⟩, fun b ps e => sm'.ntb b ps (offF_at e).2⟩, sm'.tabs, by rw [List.length_set]; exact sm'.len, fun j d e => ?_, fun j io' oc e => ?_, fun j l b hj hl e1 e2 => ?_⟩, at_⟩
  · rcases ownB b z with rfl | z
    · exact .inl own_a
    · rcases st.new b z with z | z
      · exact .inl (own_set z)
      · exact .inr z
  · obtain ⟨hb, e⟩ := offF_at e
    rcases st.newF b o e with z | z | z
    · rw [upd_ne hb] at z
      exact .inl z
    · exact .inr (.inl (own_set z))
    · exact .inr (.inr z)
  · by_cases hj : j = i
    · subst hj
      rw [hi] at e
      cases e
      exact ⟨rfl, _, at_i⟩
    · rw [set_ne hj]
      exact st.io j oc (by rw [set_ne hj]; exact e)
  · by_cases hj : j = i
    · subst hj
      rw [at_i] at e
      cases e
      exact ⟨_, hi⟩
    · rw [set_ne hj] at e
      obtain ⟨ds, z⟩ := st.noio j oc e
      rw [set_ne hj] at z
      exact ⟨ds, z⟩
  · exact sm'.sub.go _ _ (offF_at e).2 nb
  · exact sm'.sub.bk _ _ _ (offF_at e).2
  · by_cases hj : j = i
    · subst hj
      rw [at_i] at e
      cases e
    · rw [set_ne hj] at e
      obtain ⟨v, e1, r⟩ := sm'.im j d e
      exact ⟨v, e1, off_rep at_ _ _ r (free j _ hj e)⟩
  · by_cases hj : j = i
    · subst hj
      rw [at_i] at e
      cases e
      exact ⟨a, .lst vs, hx, sm'.sub.bk _ _ _ at_, if_pos rfl, .ls (r.up same)⟩
    · rw [set_ne hj] at e
      obtain ⟨b, o, e1, e2, e3, e4⟩ := sm'.ow j io' oc e
      refine ⟨b, o, e1, e2, ?_, off_oc at_ e4 (free j _ hj e)⟩
      unfold offF
      split
      · rfl
      · exact e3
  · have w : ∀ j, isOw (ρ'.set i (.ow io (.ls xs))) j → σ[j]? = some (some (V.ref b)) → j ≠ i → isOw ρ' j ∧ b ≠ a := fun j ⟨io', oc, e⟩ e1 hj => by
      rw [set_ne hj] at e
      refine ⟨⟨io', oc, e⟩, fun z => ?_⟩
      subst z
      obtain ⟨q, o, e2, _, e3, _⟩ := sm'.ow j io' oc e
      rw [e1] at e2
      cases e2
      rw [at_] at e3
      cases e3
    by_cases hj1 : j = i
    · by_cases hl1 : l = i
      · rw [hj1, hl1]
      · have := (w l hl e2 hl1).2
        subst hj1
        rw [hx] at e1
        cases e1
        exact (this rfl).elim
    · by_cases hl1 : l = i
      · have := (w j hj e1 hj1).2
        subst hl1
        rw [hx] at e2
        cases e2
        exact (this rfl).elim
      · exact sm'.inj j l b (w j hj e1 hj1).1 (w l hl e2 hl1).1 e1 e2
theorem lend_post {r : R RV} {Q : VK} (sm : Sim M F H σ ρ) (hi : ρ[i]? = some (.ow io (.ls xs))) (hx : σ[i]? = some (some (V.ref a))) (hF : F a = none) (rr : Reps M F vs xs)
    (h : Post M W σ ρ F H (lendR n i io xs r) Q) : Post M W σ (ρ.set i (.im (.tl n xs))) (upd F a (bw n vs)) H r Q := by
  cases r with
  | bad => exact h
  | ok x ρ' =>
    intro F' H' v st sm' ok
    have h : Post M W σ ρ F H (if (rvF n x && (ρ'.set i .no).all (svF n)) = true then .ok x (ρ'.set i (.ow io (.ls xs))) else .bad) Q := h
    split at h
    · rename_i hc
      obtain ⟨f1, f2⟩ := Bool.and_eq_true_iff.mp hc
      obtain ⟨st2, sm2, at_⟩ := lend_out sm hi hx hF rr st sm' f2
      refine h _ _ v st2 sm2 ?_
      cases x with
      | im d => exact off_rep at_ _ _ ok f1
      | ow oc =>
        obtain ⟨b, o, e, e1, e2, e3, e4, e5⟩ := ok
        refine ⟨b, o, e, e1, ?_, off_oc at_ e3 f1, fun ⟨j, ⟨io', oc', z⟩, z2⟩ => ?_, e5⟩
        · unfold offF
          split
          · rfl
          · exact e2
        · by_cases hj : j = i
          · subst hj
            rw [hx] at z2
            cases z2
            rw [at_] at e2
            cases e2
          · rw [set_ne hj] at z
            exact e4 ⟨j, ⟨io', oc', z⟩, z2⟩
      | bo k =>
        obtain ⟨⟨io', oc', z⟩, z2⟩ := ok
        refine ⟨?_, z2⟩
        by_cases hj : k = i
        · subst hj
          exact ⟨io, _, by rw [List.getElem?_set_self (by
            by_cases h : k < ρ'.length
            · exact h
            · rw [List.getElem?_eq_none (by omega)] at z
              cases z)]⟩
        · exact ⟨io', oc', by rw [set_ne hj]; exact z⟩
    · exact h.elim
  | ex e ρ' =>
    intro F' H' cls d st sm' ok
    have h : Post M W σ ρ F H (if (tlFf n e.fs && (ρ'.set i .no).all (svF n)) = true then .ex e (ρ'.set i (.ow io (.ls xs))) else .bad) Q := h
    split at h
    · rename_i hc
      obtain ⟨f1, f2⟩ := Bool.and_eq_true_iff.mp hc
      obtain ⟨st2, sm2, at_⟩ := lend_out sm hi hx hF rr st sm' f2
      obtain ⟨e1, dx, ws, e2, e3, e4, e5⟩ := ok
      exact h _ _ cls d st2 sm2 ⟨e1, dx, ws, e2, off_go at_ e3 (fun ws q => by cases q), off_repf at_ _ _ e4 f1, e5⟩
    · exact h.elim
theorem de_lend {X : Cx} {e : Expr} {m : DM RV} (i n : Nat) (he : DE X M W e m) : DE X M W e (dLend i n m) := by
  obtain ⟨t, p, q⟩ := he
  refine ⟨t, p, fun σ H F ρ Q sm h => ?_⟩
  unfold dLend at h
  split at h
  · rename_i io xs hi
    obtain ⟨a, vs, hx, hH, hF, r⟩ := sm.owl i io xs hi
    exact q σ H _ _ Q (lend_in sm hi hx hH hF r) (lend_post sm hi hx hF r h)
  · exact h.elim
end
theorem neAt {M : Mx} {c : Str} {C : Addr} (hc : M.ca c = C) (mo : PySem.W.mroIn M.K C (.type "object") = some true) (ne : PySem.W.findIn M.K (.ref C) "__ne__" = some (some (.builtin "object.__ne__"))) : NeAt M c := by
  subst hc
  exact ⟨mo, ne⟩
theorem inAt {M : Mx} {c : Str} {C : Addr} (g : M.mg c = some (.ref C)) (hc : M.ca c = C) (ic : C8.InsC M.K C) (k : PySem.W.kitOne M.K (.type "NoneType") (.ref C) = some false ∧ PySem.W.kitOne M.K (.type "bool") (.ref C) = some false ∧ PySem.W.kitOne M.K (.type "int") (.ref C) = some false ∧ PySem.W.kitOne M.K (.type "str") (.ref C) = some false ∧ PySem.W.kitOne M.K (.type "tuple") (.ref C) = some false ∧ PySem.W.kitOne M.K (.type "list") (.ref C) = some false) : InAt M c := by
  subst hc
  refine ⟨g, ic, fun T hT => ?_⟩
  simp only [tyNs, List.mem_cons, List.not_mem_nil, or_false] at hT
  obtain ⟨k1, k2, k3, k4, k5, k6⟩ := k
  rcases hT with rfl | rfl | rfl | rfl | rfl | rfl <;> assumption
end DL

/- part -/
set_option Elab.async false
set_option linter.all false
set_option maxRecDepth 100000
set_option maxHeartbeats 1000000
namespace DL
open PySem PySem.Spec PyProof.Rows L2
/-! ### x, y = a, b where the slots may get new lists for their own -/
def sParO (i j : Nat) (ma mb : DM RV) : DM Fl := fun ρ => ((ma ρ).bind asSV).bind fun sv ρ1 => ((mb ρ1).bind asSV).bind fun sw ρ2 => (stow ρ2 i sv).bind fun _ ρ3 => (stow ρ3 j sw).bind fun _ ρ4 => .ok .nx ρ4
section
variable {M : Mx} {W : WX} {X : Cx} {F H F' H' F1 H1 F2 H2 H0 : Hp} {σ σ1 : L2.St} {ρ ρ1 ρ2 : SE}
variable {a b : Expr} {ma mb : DM RV} {pos : Pos}
theorem svOk_step {v : V} {sv : SV} (ok : SvOk M H0 F1 H1 σ ρ1 v sv) (st : Stp F1 H1 σ ρ1 F2 H2 σ ρ2) : SvOk M H0 F2 H2 σ ρ2 v sv := by
  cases sv with
  | no => exact ok
  | im d => exact Rep.up st.same ok
  | ow io oc =>
    cases io with
    | true => exact ok
    | false =>
      obtain ⟨a, o, e, h1, h2, h3, h4, h5⟩ := ok
      refine ⟨a, o, e, st.keep _ _ h1 h4 h3.nt, ?_, h3.up st.same, fun z => ?_, h5⟩
      · cases e2 : F2 a with
        | none => rfl
        | some u =>
          rcases st.newF a u e2 with z | z | z
          · rw [h2] at z
            cases z
          · exact (h4 z).elim
          · exact (z.no h1 h3.nt).elim
      · rcases st.new a z with z | z
        · exact h4 z
        · exact z.no h1 h3.nt
theorem ds_parO {i j : Nat} {x y : Str} {px py pt : Pos} {kt k2 pt2} (ha : DE X M W a ma) (hb : DE X M W b mb) (hc : X.calm = true) (hN : X.N.Nodup) (hi : X.N[i]? = some x) (hj : X.N[j]? = some y) (hij : i ≠ j)
    (hx : X.env.scope.names.lookup x = some .local) (hy : X.env.scope.names.lookup y = some .local)
    (hw : swappedStores [.Tuple [.Name x px, .Name y py] kt pt] (.Tuple [a, b] k2 pt2) X.env = pure (some [x, y]))
    (hs : swapsWithSole [.Tuple [.Name x px, .Name y py] kt pt] (.Tuple [a, b] k2 pt2) pos.line X.env = pure false)
    (s1 : starEach [a, b] X.env = (false, eval a X.env) :: starEach [b] X.env := by rfl) (s2 : starEach [b] X.env = (false, eval b X.env) :: starEach [] X.env := by rfl) : DS X M W (.Assign [.Tuple [.Name x px, .Name y py] kt pt] (.Tuple [a, b] k2 pt2) pos) (sParO i j ma mb) := by
  obtain ⟨ta, pa, qa⟩ := ha
  obtain ⟨tb, pb, qb⟩ := hb
  refine ⟨_, ps_par hc hN hi hj hij hx hy (pa_cons pa (pa_cons pb pa_nil s2) s1) hw hs, fun σ H F ρ E sm h => ?_⟩
  unfold sParO at h
  refine qa σ H F ρ _ sm ?_
  cases e1 : ma ρ with
  | bad =>
    rw [e1] at h
    exact h.elim
  | ex e ρ1 =>
    rw [e1] at h
    exact fun F' H' cls d st sm' ok => h F' H' σ cls d st sm' ok
  | ok r1 ρ1 =>
    rw [e1] at h
    intro F1 H1 v st1 sm1 ok1
    have h : PostS M W σ ρ F H ((asSV r1 ρ1).bind fun sv ρ1 => ((mb ρ1).bind asSV).bind fun sw ρ2 => (stow ρ2 i sv).bind fun _ ρ3 => (stow ρ3 j sw).bind fun _ ρ4 => .ok .nx ρ4) E := h
    cases e2 : asSV r1 ρ1 with
    | bad =>
      rw [e2] at h
      exact h.elim
    | ex e ρ2 => exact (asSV_ex e2).elim
    | ok sv ρ2 =>
      rw [e2] at h
      obtain ⟨F2, st2, sm2, ok2⟩ := asSV_ok st1 ok1 sm1 e2
      have h : PostS M W σ ρ F H (((mb ρ2).bind asSV).bind fun sw ρ2 => (stow ρ2 i sv).bind fun _ ρ3 => (stow ρ3 j sw).bind fun _ ρ4 => .ok .nx ρ4) E := h
      refine qb σ H1 F2 ρ2 _ sm2 ?_
      cases e3 : mb ρ2 with
      | bad =>
        rw [e3] at h
        exact h.elim
      | ex e ρ3 =>
        rw [e3] at h
        exact fun F' H' cls d st sm' ok => h F' H' σ cls d (st2.trans st) sm' ok
      | ok r2 ρ3 =>
        rw [e3] at h
        intro F3 H3 w st3 sm3 ok3
        have h : PostS M W σ ρ F H ((asSV r2 ρ3).bind fun sw ρ2 => (stow ρ2 i sv).bind fun _ ρ3 => (stow ρ3 j sw).bind fun _ ρ4 => .ok .nx ρ4) E := h
        cases e4 : asSV r2 ρ3 with
        | bad =>
          rw [e4] at h
          exact h.elim
        | ex e ρ4 => exact (asSV_ex e4).elim
        | ok sw ρ4 =>
          rw [e4] at h
          obtain ⟨F4, st4, sm4, ok4⟩ := asSV_ok st3 ok3 sm3 e4
          have h : PostS M W σ ρ F H ((stow ρ4 i sv).bind fun _ ρ3 => (stow ρ3 j sw).bind fun _ ρ4 => .ok .nx ρ4) E := h
          have ok5 := svOk_step ok2 st4
          cases e5 : stow ρ4 i sv with
          | bad =>
            rw [e5] at h
            exact h.elim
          | ex e ρ5 => exact (stow_ex e5).elim
          | ok u ρ5 =>
            rw [e5] at h
            obtain ⟨st6, sm6⟩ := stow_ok (st2.trans st4) ok5 sm4 e5
            have h : PostS M W σ ρ F H ((stow ρ5 j sw).bind fun _ ρ4 => .ok .nx ρ4) E := h
            cases e6 : stow ρ5 j sw with
            | bad =>
              rw [e6] at h
              exact h.elim
            | ex e ρ6 => exact (stow_ex e6).elim
            | ok u ρ6 =>
              rw [e6] at h
              have set5 : ρ5 = ρ4.set i sv := by
                unfold stow at e5
                split at e5
                · cases e5
                · cases e5
                  rfl
                · cases e5
              have ok6 : SvOk M H F4 H3 (σ.set i (some v)) ρ5 w sw := by
                cases sw with
                | no => exact ok4
                | im d => exact ok4
                | ow io oc =>
                  cases io with
                  | true => exact ok4
                  | false =>
                    obtain ⟨c, o, z1, z2, z3, z4, z5, z6⟩ := ok4
                    refine ⟨c, o, z1, z2, z3, z4, fun z => ?_, st2.dom _ z6⟩
                    rw [set5] at z
                    rcases own_set' z with z | ⟨q1, io, oc', q2⟩
                    · exact z5 z
                    · subst q1 q2
                      cases io with
                      | true => exact ok2.elim
                      | false =>
                        obtain ⟨c', o', y1, y2, y3, y4, y5, y6⟩ := ok2
                        cases y1
                        exact z6.no y2 y4.nt
              obtain ⟨st7, sm7⟩ := stow_ok (v := w) st6 ok6 sm6 e6
              exact ⟨v, w, rfl, h F4 H3 _ st7 sm7⟩
end
section
variable {P : Program} {w : World} {base : Heap} {N : List Str} {sc : Scope} {jj : Nat} {M : Mx} {W : WX} {X : Cx} {a b : Expr} {ma mb : DM RV} {pos : Pos}
theorem ds_parOv {x y : Str} {px py pt : Pos} {kt k2 pt2} (C : CxD P w base M N sc jj X W) (i l : Nat) (hx : sc.names.lookup x = some .local) (hy : sc.names.lookup y = some .local) (hl : (py.line == px.line) = true) (hne : (y == x) = false) (ha : DE X M W a ma) (hb : DE X M W b mb) (hi : N[i]? = some x := by rfl) (hj : N[l]? = some y := by rfl) (hij : i ≠ l := by decide)
    (h1 : ∀ v q, a ≠ .Starred v q := by intro _ _ z; cases z) (h2 : ∀ v q, b ≠ .Starred v q := by intro _ _ z; cases z) (h3 : [a, b].all (foldedForSure 8) = false := by rfl) (h4 : [a, b].all (constantsAlone 8) = false := by rfl)
    (s1 : starEach [a, b] X.env = (false, eval a X.env) :: starEach [b] X.env := by rfl) (s2 : starEach [b] X.env = (false, eval b X.env) :: starEach [] X.env := by rfl)
    (hs : swapsWithSole [.Tuple [.Name x px, .Name y py] kt pt] (.Tuple [a, b] k2 pt2) pos.line X.env = pure false := by rfl) : DS X M W (.Assign [.Tuple [.Name x px, .Name y py] kt pt] (.Tuple [a, b] k2 pt2) pos) (sParO i l ma mb) := by
  have hx2 : X.env.scope.names.lookup x = some .local := by rw [C.hs]; exact hx
  have hy2 : X.env.scope.names.lookup y = some .local := by rw [C.hs]; exact hy
  exact ds_parO ha hb C.cm C.nd' (C.ix hi) (C.ix hj) hij hx2 hy2 (swapped2 (by rw [C.hs]; exact C.hf) hx2 hy2 hl hne h1 h2 h3 h4) hs s1 s2
end
/-! ### reckoning with the newer readings -/
def lenK (c : Str) (mm : SE → R RV) (as : List AV) (ρ1 : SE) : R RV := match as with
  | [.d (.obj c' fs)] => if c' = c then lenB (mm [.im (.obj c' fs)]) ρ1 else .bad
  | _ => .bad
def reprK (c : Str) (mm : SE → R RV) (as : List AV) (ρ1 : SE) : R RV := match as with
  | [.d (.obj c' fs)] => if c' = c then strB (mm [.im (.obj c' fs)]) ρ1 else .bad
  | _ => .bad
def lendK (i n : Nat) (m : DM RV) (o : Option SV) (ρ : SE) : R RV := match o with
  | some (.ow io (.ls xs)) => lendR n i io xs (m (ρ.set i (.im (.tl n xs))))
  | _ => .bad
section
variable {ρ : SE} {d e : D} {i j n : Nat} {x : Str} {mm : SE → R RV} {fs : List (Str × D)} {r : R RV} {Q : RV → SE → Prop} {E : Exc → SE → Prop}
@[simp ↓, simp] theorem u_parO {ma mb : DM RV} {c : Cont Fl} : Wp (sParO i j ma mb ρ) = Wp (((ma ρ).bind asSV).bind fun sv ρ1 => ((mb ρ1).bind asSV).bind fun sw ρ2 => (stow ρ2 i sv).bind fun _ ρ3 => (stow ρ3 j sw).bind fun _ ρ4 => .ok .nx ρ4 : R Fl) := rfl
@[simp ↓, simp] theorem u_lenO {ms : DM (List AV)} {c : Cont RV} : Wp (dLenO x mm ms ρ) = Wp ((ms ρ).bind fun as ρ1 => lenK x mm as ρ1 : R RV) := rfl
@[simp ↓, simp] theorem u_reprO {ms : DM (List AV)} {c : Cont RV} : Wp (dReprO x mm ms ρ) = Wp ((ms ρ).bind fun as ρ1 => reprK x mm as ρ1 : R RV) := rfl
@[simp] theorem lenK_ob : lenK x mm [.d (.obj x fs)] ρ = lenB (mm [.im (.obj x fs)]) ρ := if_pos rfl
@[simp] theorem reprK_ob : reprK x mm [.d (.obj x fs)] ρ = strB (mm [.im (.obj x fs)]) ρ := if_pos rfl
@[simp ↓, simp] theorem w_lenB : WP (lenB r ρ) Q E = WP r (fun v _ => ∃ n : Int, v = .im (.int n) ∧ 0 ≤ n ∧ n < 2 ^ 62 ∧ Q (.im (.int n)) ρ) noX := by
  cases r with
  | bad => exact wp_bad.trans wp_bad.symm
  | ex e ρ1 => exact wp_bad.trans (wp_ex (E := noX)).symm
  | ok v ρ1 =>
    rw [wp_ok]
    cases v with
    | im d =>
      cases d with
      | int k =>
        by_cases h : 0 ≤ k ∧ k < 2 ^ 62
        · rw [show lenB (.ok (.im (.int k)) ρ1) ρ = .ok (.im (.int k)) ρ from if_pos h, wp_ok]
          exact propext ⟨fun q => ⟨k, rfl, h.1, h.2, q⟩, fun ⟨n, e, _, _, q⟩ => by cases e; exact q⟩
        · rw [show lenB (.ok (.im (.int k)) ρ1) ρ = .bad from if_neg h, wp_bad]
          exact propext ⟨False.elim, fun ⟨n, e, a, b, q⟩ => by cases e; exact h ⟨a, b⟩⟩
      | _ => exact wp_bad.trans (by simp)
    | _ => exact wp_bad.trans (by simp)
@[simp ↓, simp] theorem w_strB : WP (strB r ρ) Q E = WP r (fun v _ => ∃ s : Str, v = .im (.str s) ∧ Q (.im (.str s)) ρ) noX := by
  cases r with
  | bad => exact wp_bad.trans wp_bad.symm
  | ex e ρ1 => exact wp_bad.trans (wp_ex (E := noX)).symm
  | ok v ρ1 =>
    rw [wp_ok]
    cases v with
    | im d =>
      cases d with
      | str k =>
        rw [show strB (.ok (.im (.str k)) ρ1) ρ = .ok (.im (.str k)) ρ from rfl, wp_ok]
        exact propext ⟨fun q => ⟨k, rfl, q⟩, fun ⟨n, e, q⟩ => by cases e; exact q⟩
      | _ => exact wp_bad.trans (by simp)
    | _ => exact wp_bad.trans (by simp)
@[simp ↓, simp] theorem w_blB {g : Bool → Bool} : WP (blB g r ρ) Q E = WP r (fun v _ => ∃ b : Bool, v = .im (.bl b) ∧ Q (.im (.bl (g b))) ρ) noX := by
  cases r with
  | bad => exact wp_bad.trans wp_bad.symm
  | ex e ρ1 => exact wp_bad.trans (wp_ex (E := noX)).symm
  | ok v ρ1 =>
    rw [wp_ok]
    cases v with
    | im d =>
      cases d with
      | bl k =>
        rw [show blB g (.ok (.im (.bl k)) ρ1) ρ = .ok (.im (.bl (g k))) ρ from rfl, wp_ok]
        exact propext ⟨fun q => ⟨k, rfl, q⟩, fun ⟨n, e, q⟩ => by cases e; exact q⟩
      | _ => exact wp_bad.trans (by simp)
    | _ => exact wp_bad.trans (by simp)
@[simp ↓, simp] theorem u_cmpO {g : Bool → Bool} {ma mb : DM RV} {c : Cont RV} : Wp (dCmpO g x mm ma mb ρ) = Wp ((dFz ma ρ).bind fun d ρ1 => (dFz mb ρ1).bind fun e ρ2 => eqB g x mm d e ρ2 : R RV) := rfl
@[simp] theorem eqB_ob {g : Bool → Bool} (h : tyOk x e = true) : eqB g x mm (.obj x fs) e ρ = blB g (mm [.im (.obj x fs), .im e]) ρ := if_pos ⟨rfl, h⟩
@[simp] theorem tyOk_ob : tyOk x (.obj x fs) = true := decide_eq_true rfl
@[simp] theorem tyOk_lst {ds : List D} : tyOk x (.lst ds) = true := rfl
@[simp] theorem tyOk_tup {ds : List D} : tyOk x (.tup ds) = true := rfl
@[simp] theorem tyOk_str {s : Str} : tyOk x (.str s) = true := rfl
@[simp] theorem tyOk_int {k : Int} : tyOk x (.int k) = true := rfl
@[simp ↓, simp] theorem u_lend {m : DM RV} {c : Cont RV} : Wp (dLend i n m ρ) = Wp (lendK i n m ρ[i]? ρ) := rfl
@[simp ↓, simp] theorem w_lend {m : DM RV} {io : Bool} {xs : List D} : WP (lendK i n m (some (.ow io (.ls xs))) ρ) Q E = WP (m (ρ.set i (.im (.tl n xs)))) (fun r ρ' => (rvF n r && (ρ'.set i .no).all (svF n)) = true ∧ Q r (ρ'.set i (.ow io (.ls xs)))) (fun e ρ' => (tlFf n e.fs && (ρ'.set i .no).all (svF n)) = true ∧ E e (ρ'.set i (.ow io (.ls xs)))) := by
  show WP (lendR n i io xs (m (ρ.set i (.im (.tl n xs))))) Q E = _
  cases m (ρ.set i (.im (.tl n xs))) with
  | bad => exact wp_bad.trans wp_bad.symm
  | ok r ρ' =>
    rw [wp_ok]
    show WP (if (rvF n r && (ρ'.set i .no).all (svF n)) = true then .ok r (ρ'.set i (.ow io (.ls xs))) else .bad) Q E = _
    by_cases h : (rvF n r && (ρ'.set i .no).all (svF n)) = true
    · rw [if_pos h, wp_ok]
      simp [h]
    · rw [if_neg h, wp_bad]
      simp [h]
  | ex e ρ' =>
    rw [wp_ex]
    show WP (if (tlFf n e.fs && (ρ'.set i .no).all (svF n)) = true then .ex e (ρ'.set i (.ow io (.ls xs))) else .bad) Q E = _
    by_cases h : (tlFf n e.fs && (ρ'.set i .no).all (svF n)) = true
    · rw [if_pos h, wp_ex]
      simp [h]
    · rw [if_neg h, wp_bad]
      simp [h]
@[simp] theorem svF_no : svF n .no = true := rfl
@[simp] theorem svF_im : svF n (.im d) = tlF n d := rfl
@[simp] theorem svF_ow {io : Bool} {oc : OC} : svF n (.ow io oc) = ocF n oc := rfl
@[simp] theorem ocF_ls {ds : List D} : ocF n (.ls ds) = tlFs n ds := rfl
@[simp] theorem ocF_ob {c : Str} : ocF n (.ob c fs) = tlFf n fs := rfl
@[simp] theorem rvF_im : rvF n (.im d) = tlF n d := rfl
@[simp] theorem rvF_ow {oc : OC} : rvF n (.ow oc) = ocF n oc := rfl
@[simp] theorem tlF_non : tlF n .non = true := by unfold tlF; rfl
@[simp] theorem tlF_bl {b : Bool} : tlF n (.bl b) = true := by unfold tlF; rfl
@[simp] theorem tlF_int {k : Int} : tlF n (.int k) = true := by unfold tlF; rfl
@[simp] theorem tlF_str {s : Str} : tlF n (.str s) = true := by unfold tlF; rfl
@[simp] theorem tlF_scr {ns : List Int} : tlF n (.scr ns) = true := by unfold tlF; rfl
@[simp] theorem tlF_tup {ds : List D} : tlF n (.tup ds) = tlFs n ds := by rw [tlF]
@[simp] theorem tlF_lst {ds : List D} : tlF n (.lst ds) = tlFs n ds := by rw [tlF]
@[simp] theorem tlF_obj {c : Str} : tlF n (.obj c fs) = tlFf n fs := by rw [tlF]
@[simp] theorem tlFs_nil : tlFs n [] = true := by unfold tlFs; rfl
@[simp] theorem tlFs_cons {ds : List D} : tlFs n (d :: ds) = (tlF n d && tlFs n ds) := by rw [tlFs]
@[simp] theorem tlFf_nil : tlFf n [] = true := by unfold tlFf; rfl
@[simp] theorem tlFf_cons {s : Str} : tlFf n ((s, d) :: fs) = (tlF n d && tlFf n fs) := by rw [tlFf]
@[simp] theorem tlFs_ints : ∀ {ns : List Int}, tlFs n (ns.map D.int) = true
  | [] => tlFs_nil
  | k :: ns => by rw [List.map_cons, tlFs_cons, tlF_int, tlFs_ints]; rfl
end
end DL

/- part -/
set_option Elab.async false
set_option linter.all false
set_option maxRecDepth 100000
set_option maxHeartbeats 1000000
namespace DL
open PySem PySem.Spec PyProof.Rows L2
/-! ### plain data compared -/
mutual
def pg : Nat → D → Bool
  | 0, _ => false
  | _ + 1, .non => true
  | _ + 1, .bl _ => true
  | _ + 1, .int _ => true
  | _ + 1, .str x => x.cps.all (· < 0x110000)
  | n + 1, .tup ds => pgs n ds
  | n + 1, .lst ds => pgs n ds
  | _ + 1, _ => false
def pgs : Nat → List D → Bool
  | _, [] => true
  | n, d :: r => pg n d && pgs n r
end
mutual
theorem pg_up : ∀ (n : Nat) (d : D), pg n d = true → pg (n + 1) d = true
  | 0, d, h => by
    unfold pg at h
    cases h
  | n + 1, d, h => by
    cases d with
    | tup ds =>
      unfold pg at h ⊢
      exact pgs_up n ds h
    | lst ds =>
      unfold pg at h ⊢
      exact pgs_up n ds h
    | _ =>
      unfold pg at h ⊢
      exact h
theorem pgs_up : ∀ (n : Nat) (ds : List D), pgs n ds = true → pgs (n + 1) ds = true
  | n, [], h => by
    unfold pgs
    rfl
  | n, d :: r, h => by
    unfold pgs at h ⊢
    obtain ⟨h1, h2⟩ := Bool.and_eq_true_iff.mp h
    rw [pg_up n d h1, pgs_up n r h2]
    rfl
end
theorem pg_le {n m : Nat} {d : D} (h : pg n d = true) (hm : n ≤ m) : pg m d = true := by
  induction hm with
  | refl => exact h
  | step _ ih => exact pg_up _ _ ih
mutual
theorem pg_all : ∀ (n : Nat) (d : D), pg n d = true → plain n d = true ∧ (toPy d).canLay0 = true ∧ (toPy d).depth ≤ n
  | 0, d, h => by
    unfold pg at h
    cases h
  | n + 1, d, h => by
    cases d with
    | tup ds =>
      unfold pg at h
      obtain ⟨h1, h2, h3⟩ := pgs_all n ds h
      unfold plain toPy
      refine ⟨h1, ?_, ?_⟩
      · simp only [PyData.canLay0]
        exact h2
      · simp only [PyData.depth]
        omega
    | lst ds =>
      unfold pg at h
      obtain ⟨h1, h2, h3⟩ := pgs_all n ds h
      unfold plain toPy
      refine ⟨h1, ?_, ?_⟩
      · simp only [PyData.canLay0]
        exact h2
      · simp only [PyData.depth]
        omega
    | str x =>
      unfold pg at h
      refine ⟨rfl, h, ?_⟩
      show _ ≤ _
      simp [toPy, PyData.depth]
    | non => exact ⟨rfl, rfl, by simp [toPy, PyData.depth]⟩
    | bl b => exact ⟨rfl, rfl, by simp [toPy, PyData.depth]⟩
    | int b => exact ⟨rfl, rfl, by simp [toPy, PyData.depth]⟩
    | _ =>
      unfold pg at h
      cases h
theorem pgs_all : ∀ (n : Nat) (ds : List D), pgs n ds = true → plains n ds = true ∧ PyData.canLayAll0 (toPys ds) = true ∧ PyData.depthAll (toPys ds) ≤ n
  | n, [], h => ⟨by unfold plains; rfl, by unfold toPys; rfl, by unfold toPys; simp [PyData.depthAll]⟩
  | n, d :: r, h => by
    unfold pgs at h
    obtain ⟨h1, h2⟩ := Bool.and_eq_true_iff.mp h
    obtain ⟨a1, a2, a3⟩ := pg_all n d h1
    obtain ⟨b1, b2, b3⟩ := pgs_all n r h2
    unfold plains toPys
    refine ⟨by rw [a1, b1]; rfl, ?_, ?_⟩
    · simp only [PyData.canLayAll0]
      rw [a2, b2]
      rfl
    · simp only [PyData.depthAll]
      omega
end
theorem okc_of {n : Nat} {d : D} (h : pg n d = true) (hn : n ≤ 64) : okc d = true := by
  obtain ⟨a, b, c⟩ := pg_all 64 d (pg_le h hn)
  unfold okc SeqAt.shaped
  rw [a, b, decide_eq_true c]
  rfl
theorem eqv_self {n : Nat} {d : D} (h : pg n d = true) (hn : n ≤ 64) : eqv d d = true := by
  have := okc_of h hn
  unfold okc at this
  exact SeqAt.eqv_refl _ (SeqAt.canLay_of_shaped (Bool.and_eq_true_iff.mp this).2)
theorem eq_self {n : Nat} {d : D} (h : pg n d = true) (hn : n ≤ 64) : eqD d d = some (.im (.bl true)) := by
  unfold eqD
  rw [okc_of h hn, eqv_self h hn]
  rfl
theorem ne_self {n : Nat} {d : D} (h : pg n d = true) (hn : n ≤ 64) : neD d d = some (.im (.bl false)) := by
  unfold neD
  rw [okc_of h hn, eqv_self h hn]
  rfl
theorem eq_any {n : Nat} {d e : D} (h : pg n d = true) (h2 : pg n e = true) (hn : n ≤ 64) : eqD d e = some (.im (.bl (eqv d e))) := by
  unfold eqD
  rw [okc_of h hn, okc_of h2 hn]
  rfl
theorem ne_any {n : Nat} {d e : D} (h : pg n d = true) (h2 : pg n e = true) (hn : n ≤ 64) : neD d e = some (.im (.bl (!eqv d e))) := by
  unfold neD
  rw [okc_of h hn, okc_of h2 hn]
  rfl
theorem pgs_ints {n : Nat} : ∀ {ns : List Int}, pgs (n + 1) (ns.map D.int) = true
  | [] => by unfold pgs; rfl
  | k :: ns => by
    rw [List.map_cons]
    unfold pgs
    rw [pgs_ints]
    unfold pg
    rfl
theorem pg_lints {n : Nat} {ns : List Int} : pg (n + 2) (.lst (ns.map D.int)) = true := by
  unfold pg
  exact pgs_ints
theorem pg_tints {n : Nat} {ns : List Int} : pg (n + 2) (.tup (ns.map D.int)) = true := by
  unfold pg
  exact pgs_ints
@[simp] theorem addD_lstA {a b : List D} (h : a.length + b.length ≤ 1000000) : addD (.lst a) (.lst b) = some (.ow (.ls (a ++ b))) := if_pos h
@[simp] theorem addD_tupA {a b : List D} (h : a.length + b.length ≤ 1000000) : addD (.tup a) (.tup b) = some (.im (.tup (a ++ b))) := if_pos h
theorem addD_strA {a b : Str} (h : a.length + b.length ≤ 1000000) : addD (.str a) (.str b) = some (.im (.str (a ++ b))) := if_pos h
section
variable {α : Type} {r : R α} {ρ : SE} {Q : α → SE → Prop} {E : Exc → SE → Prop}
/-- a word between: M holds behind r, and what is wished for follows from M -/
theorem wp_mid (M : α → SE → Prop) (h1 : ∀ N : α → SE → Prop, (∀ a ρ, M a ρ → N a ρ) → WP r N E) (h2 : ∀ a ρ, M a ρ → Q a ρ) : WP r Q E := h1 Q h2
theorem wp_floopJ {gm : D → SE → R Unit} {b : DM Fl} {Q : Fl → SE → Prop} {ds : List D} (I : Nat → SE → Prop) (h0 : I 0 ρ) (hs : ∀ i d ρ (J : SE → Prop), ds[i]? = some d → I i ρ → (∀ ρ, I (i + 1) ρ → J ρ) → WP (gm d ρ) (fun _ ρ1 => WP (b ρ1) (loopQ Q J) E) E) (hd : ∀ ρ, I ds.length ρ → Q .nx ρ) : WP (floop gm b ds ρ) Q E :=
  wp_floop I h0 (fun i d ρ e h => hs i d ρ _ e h fun _ z => z) hd
theorem wp_cloopJ {vs : List Nat} {gm : D → SE → R Unit} {mt : DM Bool} {me : DM RV} {Q : List D → SE → Prop} {ds : List D} (I : Nat → List D → SE → Prop) (hz : ds.length ≤ 1000000) (h0 : I 0 [] ρ) (hw : ∀ i acc ρ, I i acc ρ → noOw ρ vs = true ∧ acc.length ≤ i)
    (hs : ∀ i d acc ρ (J : List D → SE → Prop), ds[i]? = some d → I i acc ρ → (∀ a ρ, I (i + 1) a ρ → J a ρ) → WP (cTurn vs gm mt me d ρ) (fun o ρ1 => J (addO acc o) ρ1) E) (hd : ∀ acc ρ, I ds.length acc ρ → Q acc ρ) : WP (cLoop vs gm mt me ds [] ρ) Q E :=
  wp_cloop I hz h0 hw (fun i d acc ρ e h => hs i d acc ρ (I (i + 1)) e h fun _ _ z => z) hd
end
end DL

/- part -/
set_option Elab.async false
set_option linter.all false
set_option maxRecDepth 100000
set_option maxHeartbeats 1000000
namespace DL
open PySem PySem.Spec PyProof.Rows L2
/-! ### list(zip(s, t)) of two tuples -/
section
variable {prog : Program} {w : World} {A : Around} {E : Value → Shared → Prop} {s : Shared}
theorem zt_step {q ti to u i1 i2 l1 l2 : Addr} {f : Bool} {ou : Obj} {k1 k2 : Nat} {xs ys : Array Value} {x y : Value} {Q : Value → Shared → Prop} (D : ZipApart q ti to i1 i2 l1 l2)
    (hq : IsZipHeld s.heap q ti to u f) (hu : s.heap.get? u = some ou) (hti : PySem.IsPair s.heap ti (.ref i1) (.ref i2)) (t1 : s.heap.IsTupleIter i1 l1 k1) (t2 : s.heap.IsTupleIter i2 l2 k2)
    (e1 : s.heap.IsTuple l1 xs) (e2 : s.heap.IsTuple l2 ys) (hx : xs[k1]? = some x) (hy : ys[k2]? = some y)
    (fin : ∀ g, IsZipHeld g q ti to u true → g.IsTupleIter i1 l1 (k1 + 1) → g.IsTupleIter i2 l2 (k2 + 1) → PySem.IsPair g s.heap.objs.size x y → g.objs.size = s.heap.objs.size + 1 →
      (∀ c o, c ≠ q → c ≠ i1 → c ≠ i2 → s.heap.get? c = some o → g.get? c = some o) → Q (.ref s.heap.objs.size) { s with heap := g }) :
    wpAny (model prog w) A (Builtin.«zip.__next__» ⟨[.ref q], []⟩) (fun fl s' => ∃ v, fl = .done (.ret v) ∧ Q v s') E s := by
  show wpAny _ _ (field (.ref q) 2 >>= _) _ _ _
  refine wpAny_bind (wpAny_field hq rfl (x := .bool false) rfl (?_ : wpAny _ _ (field (.ref q) 3 >>= _) _ _ _))
  refine wpAny_bind (wpAny_field hq rfl (x := .ref ti) rfl (wpAny_bind (wpAny_seqItems hti rfl (?_ : wpAny _ _ (Builtin.SmallTypes.ownedTupleIsFree (.ref q) >>= _) _ _ _))))
  refine wpAny_bind (wpAny_tupleHeld_zip hq hu fun g1 p1 b1 => ?_)
  simp only [if_false, Bool.false_eq_true]; refine wpAny_bind ?_; rw [← Array.forIn_toList]; simp only [List.forIn_nil, List.forIn_cons]
  refine wpAny_bind (wpAny_bind (wpAny_holding (?_ : wpAny _ _ (Builtin.SmallTypes.nextOf (.ref i1) >>= _) _ _ _)))
  refine wpAny_bind (RZ.nextOf_tuple_item (s := { s with heap := g1 }) (t1.extBut b1.extBut D.i1z) (e1.extBut b1.extBut D.l1z) hx fun g2 p2 b2 => wpAny_pure (wpAny_pure ?_))
  refine wpAny_bind (wpAny_bind (wpAny_holding (?_ : wpAny _ _ (Builtin.SmallTypes.nextOf (.ref i2) >>= _) _ _ _)))
  refine wpAny_bind (RZ.nextOf_tuple_item (s := { s with heap := g2 }) ((t2.extBut b1.extBut D.i2z).extBut b2.extBut D.i12.symm) ((e2.extBut b1.extBut D.l2z).extBut b2.extBut D.l2i1) hy fun g3 p3 b3 => wpAny_pure (wpAny_pure (wpAny_pure ?_)))
  show wpAny _ _ (newTuple [x, y] >>= _) _ _ _
  refine wpAny_bind (wpAny_newTuple (wpAny_pure ⟨_, rfl, ?_⟩))
  have z3 : g3.objs.size = s.heap.objs.size := by rw [b3.1, b2.1, b1.1]
  have pq : IsZipHeld g3 q ti to u true := b3.extBut _ _ D.i2z.symm (b2.extBut _ _ D.i1z.symm p1)
  have kp : ∀ c o, c ≠ q → c ≠ i1 → c ≠ i2 → s.heap.get? c = some o → g3.get? c = some o := fun c o n1 n2 n3 e => b3.extBut _ _ n3 (b2.extBut _ _ n2 (b1.extBut _ _ n1 e))
  have pp : PySem.IsPair (g3.push { cls := .type "tuple", data := .seq #[x, y] }) g3.objs.size x y := Heap.get?_push_size _ rfl
  have z4 := Heap.size_push g3 { cls := .type "tuple", data := .seq #[x, y] }
  show Q (.ref g3.objs.size) _
  rw [z3] at pp z4 ⊢
  exact fin _ (Heap.get?_push_of_some _ pq) ((p2.extBut b3.extBut D.i12).at fun o e => Heap.get?_push_of_some _ e) (p3.at fun o e => Heap.get?_push_of_some _ e) pp z4 fun c o n1 n2 n3 e => Heap.get?_push_of_some _ (kp c o n1 n2 n3 e)
theorem zt_stop {q ti to u i1 i2 l1 l2 : Addr} {f : Bool} {ou : Obj} {k1 k2 : Nat} {xs ys : Array Value} {Q : Fin → Shared → Prop} (hh : A.handled = none) (D : ZipApart q ti to i1 i2 l1 l2)
    (hq : IsZipHeld s.heap q ti to u f) (hu : s.heap.get? u = some ou) (hti : PySem.IsPair s.heap ti (.ref i1) (.ref i2)) (t1 : s.heap.IsTupleIter i1 l1 k1) (t2 : s.heap.IsTupleIter i2 l2 k2)
    (e1 : s.heap.IsTuple l1 xs) (e2 : s.heap.IsTuple l2 ys) (hend : xs[k1]? = none ∨ ys[k2]? = none)
    (fin : ∀ g e, (∀ c o, c ≠ q → c ≠ i1 → c ≠ i2 → s.heap.get? c = some o → g.get? c = some o) → (∃ o, g.get? e = some o ∧ o.cls = .type "StopIteration") → E (.ref e) { s with heap := g }) :
    wpAny (model prog w) A (Builtin.«zip.__next__» ⟨[.ref q], []⟩) Q E s := by
  show wpAny _ _ (field (.ref q) 2 >>= _) _ _ _
  refine wpAny_bind (wpAny_field hq rfl (x := .bool false) rfl (?_ : wpAny _ _ (field (.ref q) 3 >>= _) _ _ _))
  refine wpAny_bind (wpAny_field hq rfl (x := .ref ti) rfl (wpAny_bind (wpAny_seqItems hti rfl (?_ : wpAny _ _ (Builtin.SmallTypes.ownedTupleIsFree (.ref q) >>= _) _ _ _))))
  refine wpAny_bind (wpAny_tupleHeld_zip hq hu fun g1 p1 b1 => ?_)
  simp only [if_false, Bool.false_eq_true]; refine wpAny_bind ?_; rw [← Array.forIn_toList]; simp only [List.forIn_nil, List.forIn_cons]
  refine wpAny_bind (wpAny_bind (wpAny_holding (?_ : wpAny _ _ (Builtin.SmallTypes.nextOf (.ref i1) >>= _) _ _ _)))
  cases hx : xs[k1]? with
  | none => exact wpAny_bind (RZ.nextOf_tuple_end (s := { s with heap := g1 }) hh (t1.extBut b1.extBut D.i1z) (e1.extBut b1.extBut D.l1z) hx fun g2 e b2 he => fin g2 e (fun c o n1 n2 _ z => b2 _ _ n2 (b1.extBut _ _ n1 z)) he)
  | some x =>
    have hy : ys[k2]? = none := by
      rcases hend with z | z
      · rw [hx] at z; cases z
      · exact z
    refine wpAny_bind (RZ.nextOf_tuple_item (s := { s with heap := g1 }) (t1.extBut b1.extBut D.i1z) (e1.extBut b1.extBut D.l1z) hx fun g2 p2 b2 => wpAny_pure (wpAny_pure ?_))
    refine wpAny_bind (wpAny_bind (wpAny_holding (?_ : wpAny _ _ (Builtin.SmallTypes.nextOf (.ref i2) >>= _) _ _ _)))
    exact wpAny_bind (RZ.nextOf_tuple_end (s := { s with heap := g2 }) hh ((t2.extBut b1.extBut D.i2z).extBut b2.extBut D.i12.symm) ((e2.extBut b1.extBut D.l2z).extBut b2.extBut D.l2i1) hy fun g3 e b3 he => fin g3 e (fun c o n1 n2 n3 z => b3 _ _ n3 (b2.extBut _ _ n2 (b1.extBut _ _ n1 z))) he)
/-- where such a zip stands, the tuple that it gave last still there -/
def ZtSt (h : Heap) (q ti to i1 i2 l1 l2 S : Addr) (xs ys : Array Value) (i : Nat) : Prop :=
  PySem.IsPair h ti (.ref i1) (.ref i2) ∧ h.IsTupleIter i1 l1 i ∧ h.IsTupleIter i2 l2 i ∧ h.IsTuple l1 xs ∧ h.IsTuple l2 ys ∧
  ((IsZip h q ti to .none ∧ ∃ a b, PySem.IsPair h to a b) ∨ ∃ u f ou, IsZipHeld h q ti to u f ∧ h.get? u = some ou ∧ u ≠ q ∧ u ≠ i1 ∧ u ≠ i2 ∧ u ≠ S)
structure ZtAp (q ti to i1 i2 l1 l2 S : Addr) : Prop where
  D : ZipApart q ti to i1 i2 l1 l2
  qS : q ≠ S
  tiS : ti ≠ S
  toS : to ≠ S
  i1S : i1 ≠ S
  i2S : i2 ≠ S
  l1S : l1 ≠ S
  l2S : l2 ≠ S
theorem ZtSt.keep {h h' : Heap} {q ti to i1 i2 l1 l2 S : Addr} {xs ys : Array Value} {i : Nat} (B : ZtAp q ti to i1 i2 l1 l2 S) (x : ZtSt h q ti to i1 i2 l1 l2 S xs ys i) (hk : ∀ b o, b ≠ S → h.get? b = some o → h'.get? b = some o) : ZtSt h' q ti to i1 i2 l1 l2 S xs ys i := by
  obtain ⟨a1, a2, a3, a4, a5, a6⟩ := x
  refine ⟨hk _ _ B.tiS a1, a2.at fun o e => hk _ o B.i1S e, a3.at fun o e => hk _ o B.i2S e, a4.at fun o e => hk _ o B.l1S e, a5.at fun o e => hk _ o B.l2S e, ?_⟩
  rcases a6 with ⟨z1, a, b, z2⟩ | ⟨u, f, ou, z1, z2, n1, n2, n3, n4⟩
  · exact .inl ⟨hk _ _ B.qS z1, a, b, hk _ _ B.toS z2⟩
  · exact .inr ⟨u, f, ou, hk _ _ B.qS z1, hk _ _ n4 z2, n1, n2, n3, n4⟩
theorem zt_item {q ti to i1 i2 l1 l2 S : Addr} {xs ys : Array Value} {i : Nat} {x y : Value} {Q : Option Value → Shared → Prop} (B : ZtAp q ti to i1 i2 l1 l2 S) (st : ZtSt s.heap q ti to i1 i2 l1 l2 S xs ys i) (hS : S < s.heap.objs.size) (hx : xs[i]? = some x) (hy : ys[i]? = some y)
    (fin : ∀ g, ZtSt g q ti to i1 i2 l1 l2 S xs ys (i + 1) → PySem.IsPair g s.heap.objs.size x y → g.objs.size = s.heap.objs.size + 1 → (∀ c o, c ≠ q → c ≠ to → c ≠ i1 → c ≠ i2 → s.heap.get? c = some o → g.get? c = some o) → Q (some (.ref s.heap.objs.size)) { s with heap := g }) :
    wpAny (model prog w) A (pyNext (.ref q)) Q E s := by
  obtain ⟨a1, a2, a3, a4, a5, a6⟩ := st
  have D := B.D
  have lt : ∀ {c o}, s.heap.get? c = some o → s.heap.objs.size ≠ c := fun e => Nat.ne_of_gt (Heap.lt_size e)
  have n1 : s.heap.objs.size ≠ i1 := by obtain ⟨_, e, _⟩ := a2; exact lt e
  have n2 : s.heap.objs.size ≠ i2 := by obtain ⟨_, e, _⟩ := a3; exact lt e
  rcases a6 with ⟨z1, a, b, z2⟩ | ⟨u, f, ou, z1, z2, m1, m2, m3, m4⟩
  · refine RZ.pyNext_zipT_item D z1 a1 z2 a2 a3 a4 a5 hx hy fun g b1 b2 b3 b4 b5 b6 kp => fin g ⟨kp _ _ D.TIz D.TITO D.TIi1 D.TIi2 a1, b3, b4, a4.at fun o e => kp _ o D.l1z D.l1TO D.l1i1 D.l1i2 e, a5.at fun o e => kp _ o D.l2z D.l2TO D.l2i1 D.l2i2 e, .inr ⟨_, false, _, b1, b5, lt z1, n1, n2, Nat.ne_of_gt hS⟩⟩ b5 b6 kp
  · have hTy : s.TypeIs (.ref q) "zip" := ⟨_, z1, rfl⟩
    unfold pyNext
    refine wpAny_bind (wpAny_attempt (wpAny_callSpecial?_slot (name := Str.ofString "__next__") hTy F.slot_zip_next (wpAny_call_entry F.slot_zip_next hTy F.entry_zip_next (zt_step D z1 z2 a1 a2 a3 a4 a5 hx hy fun g b1 b3 b4 b5 b6 kp => wpAny_pure ?_) (F.args_zip_next_1 _))))
    exact fin g ⟨kp _ _ D.TIz D.TIi1 D.TIi2 a1, b3, b4, a4.at fun o e => kp _ o D.l1z D.l1i1 D.l1i2 e, a5.at fun o e => kp _ o D.l2z D.l2i1 D.l2i2 e, .inr ⟨u, true, ou, b1, kp _ _ m1 m2 m3 z2, m1, m2, m3, m4⟩⟩ b5 b6 fun c o c1 _ c3 c4 e => kp c o c1 c3 c4 e
theorem zt_end {q ti to i1 i2 l1 l2 S : Addr} {xs ys : Array Value} {i : Nat} {Q : Option Value → Shared → Prop} (hh : A.handled = none) (B : ZtAp q ti to i1 i2 l1 l2 S) (st : ZtSt s.heap q ti to i1 i2 l1 l2 S xs ys i) (hend : xs[i]? = none ∨ ys[i]? = none)
    (fin : ∀ g, (∀ c o, c ≠ q → c ≠ to → c ≠ i1 → c ≠ i2 → s.heap.get? c = some o → g.get? c = some o) → Q none { s with heap := g }) : wpAny (model prog w) A (pyNext (.ref q)) Q E s := by
  obtain ⟨a1, a2, a3, a4, a5, a6⟩ := st
  rcases a6 with ⟨z1, a, b, z2⟩ | ⟨u, f, ou, z1, z2, m1, m2, m3, m4⟩
  · exact RZ.pyNext_zipT_end hh B.D z1 a1 z2 a2 a3 a4 a5 hend fin
  · have hTy : s.TypeIs (.ref q) "zip" := ⟨_, z1, rfl⟩
    unfold pyNext
    refine wpAny_bind (wpAny_attempt (wpAny_callSpecial?_slot (name := Str.ofString "__next__") hTy F.slot_zip_next (wpAny_call_entry F.slot_zip_next hTy F.entry_zip_next (zt_stop hh B.D z1 z2 a1 a2 a3 a4 a5 hend fun g e kp he => ?_) (F.args_zip_next_1 _))))
    obtain ⟨o, ho, hc⟩ := he
    exact wpAny_bind (wpAny_isInstance (T := "StopIteration") (b := true) ⟨o, ho, hc⟩ isSubtype_stop (wpAny_pure (fin _ fun c o c1 _ c3 c4 e => kp c o c1 c3 c4 e)))
end
end DL

/- part -/
set_option Elab.async false
set_option linter.all false
set_option maxRecDepth 100000
set_option maxHeartbeats 1000000
namespace DL
open PySem PySem.Spec PyProof.Rows L2
/-! ### the list of the pairs -/
structure ZtG (xs ys : Array Value) (lo : Addr) (h : Heap) (as : List Addr) : Prop where
  rise : as.Pairwise (· < ·)
  above : ∀ a ∈ as, lo < a
  pairs : ∀ (j : Nat) (a : Addr), as[j]? = some a → ∃ x y, xs[j]? = some x ∧ ys[j]? = some y ∧ PySem.IsPair h a x y
theorem ZtG.there {xs ys : Array Value} {lo : Addr} {h : Heap} {as : List Addr} (g : ZtG xs ys lo h as) {a : Addr} (ha : a ∈ as) : a < h.objs.size := by
  obtain ⟨j, hj⟩ := List.mem_iff_getElem?.mp ha
  obtain ⟨_, _, _, _, e⟩ := g.pairs j a hj
  exact Heap.lt_size e
def lstO (acc : Array Value) (c : Nat) : Obj := { cls := .type "list", dict := none, data := .seq acc c, slots := #[] }
section
variable {prog : Program} {w : World} {A : Around} {E : Value → Shared → Prop} {s : Shared} {R : Result → Shared → Prop}
theorem zt_loop {q ti to i1 i2 l1 l2 S lo : Addr} {xs ys : Array Value} (hh : A.handled = none) (B : ZtAp q ti to i1 i2 l1 l2 S) (q1 : q ≤ lo) (q2 : to ≤ lo) (q3 : i1 ≤ lo) (q4 : i2 ≤ lo) (q5 : S ≤ lo) (n : Nat) (en : n = min xs.size ys.size) (hn : n ≤ sizeLine) (res : Value) {h0 : Heap}
    (fin : ∀ g tk acc c as, (∀ b o, b ≠ S → b ≠ q → b ≠ to → b ≠ i1 → b ≠ i2 → h0.get? b = some o → g.get? b = some o) → g.get? S = some (lstO acc c) → as.length = n → ZtG xs ys lo g as → acc.toList = as.map Value.ref → R (.ok (.ret res)) { s with heap := g, toks := tk }) :
    ∀ (k i : Nat) (h : Heap) (tk c : Nat) (acc : Array Value) (as : List Addr), n - i = k → i ≤ n → ZtSt h q ti to i1 i2 l1 l2 S xs ys i → (∀ b o, b ≠ S → b ≠ q → b ≠ to → b ≠ i1 → b ≠ i2 → h0.get? b = some o → h.get? b = some o) →
      h.get? S = some (lstO acc c) → acc.toList = as.map Value.ref → as.length = i → ZtG xs ys lo h as → lo < h.objs.size →
      codeAny (model prog w) A (.builtin "list.extend.loop" ⟨[.ref S, .ref q, res], []⟩) R { s with heap := h, toks := tk } := by
  intro k
  induction k with
  | zero =>
    intro i h tk c acc as hk hi st kp hS ha hl G hlo
    have ei : i = n := by omega
    have big : ∀ a ∈ as, a ≠ q ∧ a ≠ to ∧ a ≠ i1 ∧ a ≠ i2 ∧ a ≠ S := fun a z => by
      have ab := G.above a z
      exact ⟨Nat.ne_of_gt (Nat.lt_of_le_of_lt q1 ab), Nat.ne_of_gt (Nat.lt_of_le_of_lt q2 ab), Nat.ne_of_gt (Nat.lt_of_le_of_lt q3 ab), Nat.ne_of_gt (Nat.lt_of_le_of_lt q4 ab), Nat.ne_of_gt (Nat.lt_of_le_of_lt q5 ab)⟩
    refine codeAny_builtin F.entry_extend_loop ?_
    rw [Around.under_plainId F.plain_extend_loop _]
    refine wpAny_bind (zt_end (s := { s with heap := h, toks := tk }) (A := A.in1) hh B st ?_ fun g kg => wpAny_pure (fin g tk acc c as (fun b o n0 n1 n2 n3 n4 e => kg b o n1 n2 n3 n4 (kp b o n0 n1 n2 n3 n4 e)) (kg S _ B.qS.symm B.toS.symm B.i1S.symm B.i2S.symm hS) (by omega) ⟨G.rise, G.above, fun j a hj => ?_⟩ ha))
    · rcases Nat.le_total xs.size ys.size with z | z
      · exact .inl (Array.getElem?_eq_none (by omega))
      · exact .inr (Array.getElem?_eq_none (by omega))
    · obtain ⟨x, y, z1, z2, z3⟩ := G.pairs j a hj
      obtain ⟨b1, b2, b3, b4, b5⟩ := big a (List.mem_of_getElem? hj)
      exact ⟨x, y, z1, z2, kg a _ b1 b2 b3 b4 z3⟩
  | succ k ih =>
    intro i h tk c acc as hk hi st kp hS ha hl G hlo
    have li : i < n := by omega
    have lx : i < xs.size := by omega
    have ly : i < ys.size := by omega
    have za : acc.size = i := by rw [← Array.length_toList, ha, List.length_map, hl]
    have Sl : S < h.objs.size := Heap.lt_size hS
    refine codeAny_builtin F.entry_extend_loop ?_
    rw [Around.under_plainId F.plain_extend_loop _]
    refine wpAny_bind (zt_item (s := { s with heap := h, toks := tk }) (A := A.in1) B st Sl (Array.getElem?_eq_getElem lx) (Array.getElem?_eq_getElem ly) fun g sg pg zg kg => ?_)
    dsimp only at pg zg kg ⊢
    have hS' := kg S _ B.qS.symm B.toS.symm B.i1S.symm B.i2S.symm hS
    have up : ∀ b o, b ≠ S → g.get? b = some o → (g.update S (Obj.mapSeq (·.push (Value.ref h.objs.size)))).get? b = some o := fun b o nb e => (Heap.get?_update_other _ _ nb.symm).trans e
    have tp := up _ _ (Nat.ne_of_gt Sl) pg
    have lo2 : lo < (g.update S (Obj.mapSeq (·.push (Value.ref h.objs.size)))).objs.size := Nat.lt_trans hlo (Heap.lt_size tp)
    refine wpAny_bind (wpAny_updateSeq hS' rfl (wpAny_pure ⟨plainId_quiet F.plain_extend_loop _, ih (i + 1) _ tk _ (acc.push (Value.ref h.objs.size)) (as ++ [h.objs.size]) (by omega) li (sg.keep B up)
      (fun b o n0 n1 n2 n3 n4 e => up b o n0 (kg b o n1 n2 n3 n4 (kp b o n0 n1 n2 n3 n4 e))) (Heap.get?_update_self _ hS' rfl) (by rw [Array.toList_push, ha, List.map_append]; rfl) (by rw [List.length_append, hl]; rfl) ⟨?_, ?_, ?_⟩ lo2⟩) (by rw [za]; omega) (by show (acc.push (Value.ref h.objs.size)).size ≤ sizeLine + 1; rw [Array.size_push, za]; omega))
    · refine List.pairwise_append.mpr ⟨G.rise, List.pairwise_singleton _ _, fun a z b hb => ?_⟩
      rw [List.mem_singleton.mp hb]; exact G.there z
    · intro a z
      rcases List.mem_append.mp z with z | z
      · exact G.above a z
      · rw [List.mem_singleton.mp z]; exact hlo
    · intro j b hj
      rcases Nat.lt_trichotomy j as.length with z | z | z
      · rw [List.getElem?_append_left z] at hj
        obtain ⟨x, y, z1, z2, z3⟩ := G.pairs j b hj
        have ab := G.above b (List.mem_of_getElem? hj)
        exact ⟨x, y, z1, z2, up b _ (Nat.ne_of_gt (Nat.lt_of_le_of_lt q5 ab)) (kg b _ (Nat.ne_of_gt (Nat.lt_of_le_of_lt q1 ab)) (Nat.ne_of_gt (Nat.lt_of_le_of_lt q2 ab)) (Nat.ne_of_gt (Nat.lt_of_le_of_lt q3 ab)) (Nat.ne_of_gt (Nat.lt_of_le_of_lt q4 ab)) z3)⟩
      · subst z
        have eb : h.objs.size = b := by simpa using hj
        subst eb
        exact ⟨xs[i], ys[i], by rw [hl]; exact Array.getElem?_eq_getElem lx, by rw [hl]; exact Array.getElem?_eq_getElem ly, tp⟩
      · rw [List.getElem?_eq_none (by rw [List.length_append, List.length_singleton]; omega)] at hj; cases hj
end
namespace F2
theorem zip_no_len : typeLookup (.type "zip") "__len__" = pure none := am_miss_of_fast (by decide +kernel)
theorem zip_no_hint : typeLookup (.type "zip") "__length_hint__" = pure none := am_miss_of_fast (by decide +kernel)
end F2
section
variable {prog : Program} {w : World} {A : Around} {E : Value → Shared → Prop} {s : Shared} {R : Result → Shared → Prop}
theorem zt_extend {q ti to i1 i2 l1 l2 S lo : Addr} {xs ys : Array Value} (hh : A.handled = none) (B : ZtAp q ti to i1 i2 l1 l2 S) (q1 : q ≤ lo) (q2 : to ≤ lo) (q3 : i1 ≤ lo) (q4 : i2 ≤ lo) (q5 : S ≤ lo) (hlo : lo < s.heap.objs.size) (hn : min xs.size ys.size ≤ sizeLine) (res : Value) (c0 : Nat)
    (st : ZtSt s.heap q ti to i1 i2 l1 l2 S xs ys 0) (fresh : IsZip s.heap q ti to .none) (hS : s.heap.get? S = some (lstO #[] c0))
    (fin : ∀ g tk acc c as, (∀ b o, b ≠ S → b ≠ q → b ≠ to → b ≠ i1 → b ≠ i2 → s.heap.get? b = some o → g.get? b = some o) → g.get? S = some (lstO acc c) → as.length = min xs.size ys.size → ZtG xs ys lo g as → acc.toList = as.map Value.ref → R (.ok (.ret res)) { s with heap := g, toks := tk }) :
    wpAny (model prog w) A.in1 (Builtin.List.listExtendWith (.ref S) (.ref q) res)
      (fun fl s' => match fl with | .done f => R (.ok f) s' | .again c' => c'.quiet = true ∧ codeAny (model prog w) A c' R s') (fun e s' => R (.error e) s') s := by
  have ty : s.TypeIs (.ref q) "zip" := ⟨_, fresh, rfl⟩
  unfold Builtin.List.listExtendWith
  refine wpAny_bind (wpAny_typeOf ty ?_)
  have n1 : Builtin.List.listSameRef (.ref S) (.ref q) = false := by simp [Builtin.List.listSameRef, B.qS.symm]
  have n2 : (Value.type "zip" == Value.type "list") = false := by decide
  have n3 : (Value.type "zip" == Value.type "tuple") = false := by decide
  simp only [n1, n2, n3, Bool.false_eq_true, Bool.or_false, if_false]
  refine wpAny_bind (wpAny_pyIter_zip fresh (wpAny_bind (wpAny_holding ?_)))
  unfold Builtin.List.listLengthHint
  refine wpAny_bind (wpAny_specialOf ty F2.zip_no_len ?_)
  refine wpAny_bind (m := specialOf (Value.ref q) (Str.ofString "__length_hint__")) (wpAny_specialOf ty F2.zip_no_hint (wpAny_pure ?_))
  show wpAny _ A.in1 (rule "list.extend.makes-room" >>= fun _ => Builtin.List.listTouch (.ref S) >>= fun _ => again (.builtin "list.extend.loop" ⟨[.ref S, .ref q, res], []⟩)) _ _ _
  refine wpAny_bind (wpAny_rule (wpAny_bind (?_ : wpAny _ A.in1 (updateSeq S (·.push .none) >>= fun _ => updateSeq S (·.pop)) _ _ _)))
  refine wpAny_bind (wpAny_updateSeq hS rfl ?_)
  have h2 := Heap.get?_update_self (Obj.mapSeq (·.push Value.none)) hS rfl
  refine wpAny_updateSeq (hz := by seq_fits) h2 rfl ?_
  have h3 := Heap.get?_update_self (Obj.mapSeq (·.pop)) h2 rfl
  have oth : ∀ b o, b ≠ S → s.heap.get? b = some o → ((s.heap.update S (Obj.mapSeq (·.push Value.none))).update S (Obj.mapSeq (·.pop))).get? b = some o := fun b o nb e => (Heap.get?_update_other _ _ nb.symm).trans ((Heap.get?_update_other _ _ nb.symm).trans e)
  exact wpAny_pure ⟨plainId_quiet F.plain_extend_loop _, zt_loop (h0 := s.heap) hh B q1 q2 q3 q4 q5 _ rfl hn res fin _ 0 _ s.toks _ #[] [] (Nat.sub_zero _) (Nat.zero_le _) (st.keep B oth) (fun b o n0 _ _ _ _ e => oth b o n0 e) h3 rfl rfl
    ⟨List.Pairwise.nil, (fun _ z => nomatch z), (fun j a z => by simp at z)⟩ (by simpa [Heap.update] using hlo)⟩
end
end DL

/- part -/
set_option Elab.async false
set_option linter.all false
set_option maxRecDepth 100000
set_option maxHeartbeats 1000000
namespace DL
open PySem PySem.Spec PyProof.Rows L2
/-! ### many objects laid at once -/
def updL : Hp → List (Addr × HO) → Hp
  | H, [] => H
  | H, p :: ps => updL (upd H p.1 p.2) ps
theorem updL_off {b : Addr} : ∀ (os : List (Addr × HO)) (H : Hp), (∀ p ∈ os, p.1 ≠ b) → updL H os b = H b
  | [], _, _ => rfl
  | p :: ps, H, h => by
    show updL (upd H p.1 p.2) ps b = H b
    rw [updL_off ps _ fun q z => h q (List.mem_cons_of_mem _ z), upd_ne (h p List.mem_cons_self).symm]
theorem updL_or {b : Addr} {u : HO} : ∀ (os : List (Addr × HO)) (H : Hp), updL H os b = some u → (b, u) ∈ os ∨ H b = some u
  | [], _, h => .inr h
  | p :: ps, H, h => by
    rcases updL_or ps _ h with z | z
    · exact .inl (List.mem_cons_of_mem _ z)
    · by_cases e : b = p.1
      · subst e
        rw [upd_same] at z
        cases z
        exact .inl List.mem_cons_self
      · rw [upd_ne e] at z
        exact .inr z
theorem updL_at : ∀ (os : List (Addr × HO)) (H : Hp), (os.map (·.1)).Nodup → ∀ p ∈ os, updL H os p.1 = some p.2
  | [], _, _, _, h => nomatch h
  | q :: ps, H, nd, p, h => by
    obtain ⟨n1, n2⟩ := List.nodup_cons.mp nd
    rcases List.mem_cons.mp h with e | e
    · subst e
      show updL (upd H p.1 p.2) ps p.1 = some p.2
      rw [updL_off ps _ fun r z e => n1 (List.mem_map.mpr ⟨r, z, e⟩), upd_same]
    · exact updL_at ps _ n2 p e
section
variable {M : Mx} {W : WX} {X : Cx} {F H F' H' F1 H1 : Hp} {σ : L2.St} {s : Shared} {h' : Heap} {pins : List (Addr × Obj)}
theorem inv_many {os : List (Addr × HO)} {tk : Nat} (I : Inv X pins σ H s) (k : ∀ b u, s.heap.get? b = some u → h'.get? b = some u) (hp : ∀ p ∈ os, s.heap.objs.size ≤ p.1) (ok : ∀ p ∈ os, ∀ G, ObjOk X.prog X.w G h' p.1 p.2) :
    Inv X pins σ (updL H os) { s with heap := h', toks := tk } := by
  have low : ∀ b o, s.heap.get? b = some o → updL H os b = H b := fun b o e => updL_off _ _ fun p z w => Nat.not_lt.mpr (hp p z) (by rw [w]; exact Heap.lt_size e)
  have old : ∀ b u, H b = some u → updL H os b = some u := fun b u e => by
    rw [updL_off _ _ fun p z w => ?_, e]
    have n := I.hok.fresh (hp p z)
    rw [w, e] at n; cases n
  refine I.un ⟨fun b o q _ _ _ => k b o q, fun b o q _ _ _ => ⟨o.slots, k b o q⟩, fun b o q n _ => by rw [low b o q]; exact n, fun b o q _ => ⟨o, k b o q⟩, fun b xs q => old b _ q, fun b o u q => old b _ q, fun b ps q => ⟨#[], by rw [old b _ q]; simp⟩⟩ fun b u e => ?_
  rcases updL_or _ _ e with z | z
  · exact ok _ z _
  · exact (I.hok b u z).stay (fun d v _ y => k d v y) (fun d y => old d _ y) fun d xs y => old d _ y
theorem alcL : ∀ (os : List (Addr × HO)) (F H : Hp), SubF F H → (∀ p ∈ os, H p.1 = none) → (os.map (·.1)).Nodup → (∀ p ∈ os, ∃ vs, p.2 = .tup vs) → Alc F H (updL F os) (updL H os)
  | [], F, H, sub, _, _, _ => Alc.refl sub
  | p :: ps, F, H, sub, hn, nd, tp => by
    obtain ⟨n1, n2⟩ := List.nodup_cons.mp nd
    obtain ⟨vs, e⟩ := tp p List.mem_cons_self
    have a : Alc F H (upd F p.1 p.2) (upd H p.1 p.2) := by
      rw [e]
      exact Alc.newF' sub (hn p List.mem_cons_self)
    refine a.trans (alcL ps _ _ a.sub (fun q z => ?_) n2 fun q z => tp q (List.mem_cons_of_mem _ z))
    rw [upd_ne fun w => n1 (List.mem_map.mpr ⟨q, z, w⟩)]
    exact hn q (List.mem_cons_of_mem _ z)
def tpl : List Addr → List V → List V → List (Addr × HO)
  | t :: ts, v :: vs, w :: ws => (t, .tup [v, w]) :: tpl ts vs ws
  | _, _, _ => []
theorem tpl_mem : ∀ {ts : List Addr} {vs ws : List V} {q : Addr × HO}, q ∈ tpl ts vs ws → ∃ (j : Nat) (t : Addr) (v w : V), ts[j]? = some t ∧ vs[j]? = some v ∧ ws[j]? = some w ∧ q = (t, .tup [v, w])
  | [], _, _, _, h => nomatch h
  | _ :: _, [], _, _, h => nomatch h
  | _ :: _, _ :: _, [], _, h => nomatch h
  | t :: ts, v :: vs, w :: ws, q, h => by
    rcases List.mem_cons.mp h with e | e
    · exact ⟨0, t, v, w, rfl, rfl, rfl, e⟩
    · obtain ⟨j, r⟩ := tpl_mem e
      exact ⟨j + 1, r⟩
theorem tpl_fst : ∀ (ts : List Addr) (vs ws : List V), ts.length = min vs.length ws.length → (tpl ts vs ws).map (·.1) = ts
  | [], _, _, _ => rfl
  | t :: ts, [], _, h => by simp at h
  | t :: ts, _ :: _, [], h => by simp at h
  | t :: ts, v :: vs, w :: ws, h => by
    show t :: (tpl ts vs ws).map (·.1) = t :: ts
    rw [tpl_fst ts vs ws (by simp at h; omega)]
theorem reps_tpl (sa : Same F F') : ∀ {ts : List Addr} {vs ws : List V} {xs ys : List D}, Reps M F vs xs → Reps M F ws ys → ts.length = min vs.length ws.length → (∀ q ∈ tpl ts vs ws, F' q.1 = some q.2) → Reps M F' (ts.map V.ref) (zipD xs ys)
  | ts, _, _, _, _, .nil, _, e, _ => by
    have : ts = [] := List.length_eq_zero_iff.mp (by simpa using e)
    subst this
    exact .nil
  | ts, _, _, _, _, .cons r1 rs, .nil, e, _ => by
    have : ts = [] := List.length_eq_zero_iff.mp (by simpa using e)
    subst this
    exact .nil
  | [], _, _, _, _, .cons r1 rs, .cons q1 qs, e, _ => by simp at e
  | t :: ts, _, _, _, _, .cons r1 rs, .cons q1 qs, e, h => by
    refine .cons (Rep.tup (.inl (.inl (h _ List.mem_cons_self))) (.cons (r1.up sa) (.cons (q1.up sa) .nil))) ?_
    exact reps_tpl sa rs qs (by simp at e; omega) fun q z => h q (List.mem_cons_of_mem _ z)
def rZipL (K : PySem.W.Frag) : R2 := fun x y H Q => ∃ (a b : Addr) (vs ws : List V), x = .ref a ∧ y = .ref b ∧ SqT K H a vs ∧ SqT K H b ws ∧
  ∀ (ts : List Addr) (p : Addr), ts.length = min vs.length ws.length → ts.Nodup → (∀ t ∈ ts, H t = none) → p ∉ ts → H p = none → Q (.ref p) (updL H (tpl ts vs ws ++ [(p, .lst (ts.map V.ref))]))
theorem updL_snoc : ∀ (os : List (Addr × HO)) (H : Hp) (p : Addr) (o : HO), updL H (os ++ [(p, o)]) = upd (updL H os) p o
  | [], _, _, _ => rfl
  | q :: os, H, p, o => updL_snoc os _ p o
def zipLD : D → D → Option RV
  | .tup xs, .tup ys => some (.ow (.ls (zipD xs ys)))
  | _, _ => none
theorem o2_zipL : Op2 M (rZipL M.K) zipLD := by
  intro F H x y d e rv Q sub hx hy hg k
  unfold zipLD at hg
  split at hg
  · cases hg
    obtain ⟨a, vs, rfl, t1, r1⟩ := vw_tup hx
    obtain ⟨b, ws, rfl, t2, r2⟩ := vw_tup hy
    refine ⟨a, b, vs, ws, rfl, rfl, sub.sqT t1, sub.sqT t2, fun ts p hl nd hn hp hpn => ?_⟩
    rw [updL_snoc]
    have nd' : ((tpl ts vs ws).map (·.1)).Nodup := by rw [tpl_fst _ _ _ hl]; exact nd
    have tin : ∀ q ∈ tpl ts vs ws, q.1 ∈ ts := fun q z => by
      have w : q.1 ∈ (tpl ts vs ws).map (·.1) := List.mem_map.mpr ⟨q, z, rfl⟩
      rw [tpl_fst _ _ _ hl] at w
      exact w
    have al := alcL (tpl ts vs ws) F H sub (fun q z => hn _ (tin q z)) nd' fun q z => by
      obtain ⟨_, _, v, w, _, _, _, e⟩ := tpl_mem z
      exact ⟨_, by rw [e]⟩
    have pn : updL H (tpl ts vs ws) p = none := by rw [updL_off _ _ fun q z w => hp (by rw [← w]; exact tin q z)]; exact hpn
    have rp : Reps M (updL F (tpl ts vs ws)) (ts.map V.ref) (zipD _ _) := reps_tpl al.same r1 r2 hl fun q z => updL_at _ _ nd' q z
    exact k _ _ _ (al.trans (Alc.new al.sub pn)) ⟨p, _, rfl, upd_same, al.sub.free pn, .ls rp, hpn⟩
  · cases hg
end
/-! ### the step -/
theorem lstO_zero {h : Heap} {a : Addr} (e : h.get? a = some { cls := .type "list", data := .seq #[] }) : h.get? a = some (lstO #[] 0) := e
section
variable {P : Program} {w : World} {base : Heap} {N : List Str} {sc : Scope} {j : Nat} {M : Mx} {W : WX} {X : Cx} {F H F' H' F1 H1 : Hp} {σ : L2.St} {s : Shared} {h' : Heap} {pins : List (Addr × Obj)}
variable {a b c e : Expr} {ma mb mc m : DM RV} {es : List Expr} {pos p p2 q : Pos} {ta tb : TE}
theorem pe_zipL (hc : X.calm = true) (hg : Gl X "list") (hm : X.mg "list" = none) (hg2 : Gl X "zip") (hm2 : X.mg "zip" = none) (ha : PE X a ta) (hb : PE X b tb)
    (na : starEach [a, b] X.env = (false, eval a X.env) :: starEach [b] X.env := by rfl) (nb : starEach [b] X.env = (false, eval b X.env) :: starEach [] X.env := by rfl) (hp : (backTo q (starEach [b] X.env)).any (·.1) = false := by rfl)
    (nc : starEach [.Call (.Name "zip" p2) [a, b] [] q] X.env = (false, eval (.Call (.Name "zip" p2) [a, b] [] q) X.env) :: starEach [] X.env := by rfl) :
    PE X (.Call (.Name "list" p) [.Call (.Name "zip" p2) [a, b] [] q] [] pos) (tOp (rZipL X.K) ta tb) := by
  refine ⟨fun pins s σ H Q I h => ?_⟩
  refine Call_ (ld_blt I hg hm boot_list (PyProof.Rows.callWith_type1 (args_cons (Call_ (ld_blt I hg2 hm2 PyProof.Rows.boot_zip ?_)) nc) nc))
  refine PyProof.Rows.callWith_type1 (args_cons (thn (ha.run pins s σ H _ I h) fun v s1 ⟨x, H1, I1, r1, q1⟩ => args_cons (thn (hb.run pins s1 σ H1 _ I1 q1) fun u s2 ⟨y, H2, I2, r2, q2⟩ => args_nil ?_) nb) na) na hp
  obtain ⟨l1, l2, vs, ws, rfl, rfl, t1, t2, want⟩ := q2
  cases r1
  cases r2
  obtain ⟨us, rv1, p1, z1⟩ := I2.tuple t1
  obtain ⟨us2, rv2, p2, z2⟩ := I2.tuple t2
  obtain ⟨o1, ho1, _⟩ := id p1
  obtain ⟨o2, ho2, _⟩ := id p2
  have len1 := rv1.length
  have len2 := rv2.length
  have lt1 := Heap.lt_size ho1
  have lt2 := Heap.lt_size ho2
  refine RZ.call_zipT (show s2.heap.IsTuple l1 us.toArray from p1) (show s2.heap.IsTuple l2 us2.toArray from p2) fun h1 hz hTI hTO it1 it2 hsz kp => ?_
  refine args_nil ?_
  have D := PySem.W.ktu_apart s2.heap.objs.size l1 l2 lt1 lt2
  have lay : ∀ b o, h1.get? b = some o → (h1.push { cls := .type "list", data := .seq #[] }).get? b = some o := fun b o e => Heap.get?_push_of_some _ e
  have hS : (h1.push { cls := .type "list", data := .seq #[] }).get? h1.objs.size = some { cls := .type "list", data := .seq #[] } := Heap.get?_push_size _ rfl
  have big : ∀ {n : Nat}, n < h1.objs.size → n ≠ h1.objs.size := fun h => Nat.ne_of_lt h
  have B : ZtAp (s2.heap.objs.size + 4) (s2.heap.objs.size + 2) (s2.heap.objs.size + 3) s2.heap.objs.size (s2.heap.objs.size + 1) l1 l2 h1.objs.size :=
    ⟨D, big (Heap.lt_size hz), big (Heap.lt_size hTI), big (Heap.lt_size hTO), big (by obtain ⟨_, e, _⟩ := it1; exact Heap.lt_size e), big (by obtain ⟨_, e, _⟩ := it2; exact Heap.lt_size e), big (Heap.lt_size (kp _ _ ho1)), big (Heap.lt_size (kp _ _ ho2))⟩
  have st : ZtSt h1 (s2.heap.objs.size + 4) (s2.heap.objs.size + 2) (s2.heap.objs.size + 3) s2.heap.objs.size (s2.heap.objs.size + 1) l1 l2 h1.objs.size us.toArray us2.toArray 0 :=
    ⟨hTI, it1, it2, (show s2.heap.IsTuple l1 us.toArray from p1).at fun o e => kp _ o e, (show s2.heap.IsTuple l2 us2.toArray from p2).at fun o e => kp _ o e, .inl ⟨hz, _, _, hTO⟩⟩
  refine callType_codes (Q₁ := fun obj s1 => obj = .ref h1.objs.size ∧ s1 = { s2 with heap := h1.push { cls := .type "list", data := .seq #[] } }) F.called_list (F.typeCall_list_1 _) F.entry_list_init (code_list_new _ ⟨rfl, rfl⟩) fun obj s3 e3 => ?_
  obtain ⟨rfl, rfl⟩ := e3
  refine ⟨⟨_, hS, rfl⟩, F.args_list_init_2 _ _, ?_⟩
  show wpAny _ _ (do let old ← Builtin.List.listItems (.ref h1.objs.size); Builtin.List.listUpdate (.ref h1.objs.size) (fun _ => #[]); letGo old.toList.reverse; Builtin.List.listExtendWith (.ref h1.objs.size) (.ref (s2.heap.objs.size + 4)) .none) _ _ _
  refine wpAny_bind ?_
  unfold Builtin.List.listItems
  refine wpAny_bind (wpAny_seqItems hS rfl (wpAny_pure ?_))
  refine wpAny_bind (m := updateSeq h1.objs.size (fun _ => #[])) (wpAny_updateSeq hS rfl ?_)
  have hS2 := Heap.get?_update_self (Obj.mapSeq (fun _ => (#[] : Array Value))) hS rfl
  have oth : ∀ b o, b ≠ h1.objs.size → h1.get? b = some o → ((h1.push { cls := .type "list", data := .seq #[] }).update h1.objs.size (Obj.mapSeq (fun _ => (#[] : Array Value)))).get? b = some o :=
    fun b o nb e => (Heap.get?_update_other _ _ nb.symm).trans (lay b o e)
  have small : min us.toArray.size us2.toArray.size ≤ sizeLine := by
    rw [List.size_toArray, ← len1]
    exact Nat.le_trans (Nat.min_le_left _ _) z1
  refine wpAny_bind (wpAny_letGo ?_)
  refine zt_extend (lo := h1.objs.size) (A := X.A.in1) (I2.ok.hd hc) B (Nat.le_of_lt (Heap.lt_size hz)) (Nat.le_of_lt (Heap.lt_size hTO)) (Nat.le_of_lt (by obtain ⟨_, e, _⟩ := it1; exact Heap.lt_size e)) (Nat.le_of_lt (by obtain ⟨_, e, _⟩ := it2; exact Heap.lt_size e)) (Nat.le_refl _) (Heap.lt_size hS2) small .none _ (st.keep B oth) (oth _ _ B.qS hz) hS2 fun g tk acc c ts kg hg' hl G ha' => ?_
  have lts : ts.length = min vs.length ws.length := by rw [hl, List.size_toArray, List.size_toArray, len1, len2]
  have nd : ts.Nodup := List.Pairwise.imp (fun {a b} (h : a < b) => Nat.ne_of_lt h) G.rise
  have le2 : s2.heap.objs.size ≤ h1.objs.size := by rw [hsz]; exact Nat.le_add_right _ _
  have tle : ∀ t ∈ ts, s2.heap.objs.size ≤ t := fun t z => Nat.le_trans le2 (Nat.le_of_lt (G.above t z))
  have old : ∀ b o, s2.heap.get? b = some o → g.get? b = some o := fun b o e => by
    have lb := Heap.lt_size e
    exact kg b o (Nat.ne_of_lt (Nat.lt_of_lt_of_le lb le2)) (Nat.ne_of_lt (Nat.lt_of_lt_of_le lb (Nat.le_add_right _ _))) (Nat.ne_of_lt (Nat.lt_of_lt_of_le lb (Nat.le_add_right _ _))) (Nat.ne_of_lt lb) (Nat.ne_of_lt (Nat.lt_of_lt_of_le lb (Nat.le_add_right _ _))) (oth b o (Nat.ne_of_lt (Nat.lt_of_lt_of_le lb le2)) (kp b o e))
  have J := inv_many (os := tpl ts vs ws ++ [(h1.objs.size, .lst (ts.map V.ref))]) (tk := tk) I2 old (fun r z => ?_) fun r z K => ?_
  · exact ⟨rfl, .ref h1.objs.size, _, J, rfl, want ts h1.objs.size lts nd (fun t z => I2.hok.fresh (tle t z)) (fun z => Nat.lt_irrefl _ (G.above _ z)) (I2.hok.fresh le2)⟩
  · rcases List.mem_append.mp z with z | z
    · obtain ⟨i, t, v, w, e1, e2, e3, rfl⟩ := tpl_mem z
      exact tle t (List.mem_of_getElem? e1)
    · rw [List.mem_singleton.mp z]; exact le2
  · rcases List.mem_append.mp z with z | z
    · obtain ⟨i, t, v, w, e1, e2, e3, rfl⟩ := tpl_mem z
      obtain ⟨x, y, f1, f2, f3⟩ := G.pairs i t e1
      obtain ⟨x', g1, g2⟩ := rv1.get e2
      obtain ⟨y', g3, g4⟩ := rv2.get e3
      rw [List.getElem?_toArray, g1] at f1
      rw [List.getElem?_toArray, g3] at f2
      cases f1
      cases f2
      exact ⟨by show 2 ≤ sizeLine; decide, [x, y], .cons g2 (.cons g4 .nil), ⟨_, f3, rfl, _, rfl⟩⟩
    · rw [List.mem_singleton.mp z]
      refine ⟨by rw [List.length_map, lts]; exact Nat.le_trans (Nat.min_le_left _ _) z1, acc.toList, c, by rw [ha']; exact LiI.vals_refs ts, ?_⟩
      rw [Array.toArray_toList]
      exact hg'
theorem de_zipL (C : CxD P w base M N sc j X W) (h : GlOk sc "list") (hm : M.mg "list" = none) (h2 : GlOk sc "zip") (hm2 : M.mg "zip" = none) (ha : DE X M W a ma) (hb : DE X M W b mb)
    (na : starEach [a, b] X.env = (false, eval a X.env) :: starEach [b] X.env := by rfl) (nb : starEach [b] X.env = (false, eval b X.env) :: starEach [] X.env := by rfl) (hp : (backTo q (starEach [b] X.env)).any (·.1) = false := by rfl) (nc : starEach [.Call (.Name "zip" p2) [a, b] [] q] X.env = (false, eval (.Call (.Name "zip" p2) [a, b] [] q) X.env) :: starEach [] X.env := by rfl) :
    DE X M W (.Call (.Name "list" p) [.Call (.Name "zip" p2) [a, b] [] q] [] pos) (dOp2 zipLD ma mb) :=
  de_tOp ha hb (r := rZipL X.K) (C.hK ▸ o2_zipL) fun ta tb z1 z2 => pe_zipL C.cm (C.glo h) (by rw [← C.hM]; exact hm) (C.glo h2) (by rw [← C.hM]; exact hm2) z1 z2 na nb hp nc
end
end DL

/- part -/
set_option Elab.async false
set_option linter.all false
set_option maxRecDepth 100000
set_option maxHeartbeats 1000000
namespace DL
open PySem PySem.Spec PyProof.Rows L2
/-! ### lists of whole numbers compared -/
theorem eqvAll_ints : ∀ ns ms : List Int, PyData.eqvAll (toPys (ns.map D.int)) (toPys (ms.map D.int)) = decide (ns = ms)
  | [], [] => rfl
  | [], m :: ms => by simp [toPys, PyData.eqvAll]
  | n :: ns, [] => by simp [toPys, PyData.eqvAll]
  | n :: ns, m :: ms => by
    have e : PyData.eqvAll (toPys ((n :: ns).map D.int)) (toPys ((m :: ms).map D.int)) = ((n == m) && PyData.eqvAll (toPys (ns.map D.int)) (toPys (ms.map D.int))) := rfl
    rw [e, eqvAll_ints ns ms]
    by_cases h1 : n = m <;> by_cases h2 : ns = ms <;> simp [h1, h2]
theorem eqv_lints (ns ms : List Int) : eqv (.lst (ns.map D.int)) (.lst (ms.map D.int)) = decide (ns = ms) := eqvAll_ints ns ms
theorem eqv_tints (ns ms : List Int) : eqv (.tup (ns.map D.int)) (.tup (ms.map D.int)) = decide (ns = ms) := eqvAll_ints ns ms
theorem eq_lints (ns ms : List Int) : eqD (.lst (ns.map D.int)) (.lst (ms.map D.int)) = some (.im (.bl (decide (ns = ms)))) := by rw [eq_any (n := 2) pg_lints pg_lints (by decide), eqv_lints]
theorem eq_tints (ns ms : List Int) : eqD (.tup (ns.map D.int)) (.tup (ms.map D.int)) = some (.im (.bl (decide (ns = ms)))) := by rw [eq_any (n := 2) pg_tints pg_tints (by decide), eqv_tints]
theorem ne_lints (ns ms : List Int) : neD (.lst (ns.map D.int)) (.lst (ms.map D.int)) = some (.im (.bl (!decide (ns = ms)))) := by rw [ne_any (n := 2) pg_lints pg_lints (by decide), eqv_lints]
theorem ne_tints (ns ms : List Int) : neD (.tup (ns.map D.int)) (.tup (ms.map D.int)) = some (.im (.bl (!decide (ns = ms)))) := by rw [ne_any (n := 2) pg_tints pg_tints (by decide), eqv_tints]
theorem ne_bls (a b : Bool) : neD (.bl a) (.bl b) = some (.im (.bl (!(a == b)))) := by
  rw [ne_any (n := 1) (by rfl) (by rfl) (by decide)]
  rfl
theorem eq_lst_cons {d e : D} {ds es : List D} : eqv (.lst (d :: ds)) (.lst (e :: es)) = (eqv d e && eqv (.lst ds) (.lst es)) := rfl
theorem eq_tup_cons {d e : D} {ds es : List D} : eqv (.tup (d :: ds)) (.tup (e :: es)) = (eqv d e && eqv (.tup ds) (.tup es)) := rfl
theorem eq_tup_nil : eqv (.tup []) (.tup []) = true := rfl
theorem eq_lst_nil : eqv (.lst []) (.lst []) = true := rfl
theorem eqv_int {i k : Int} : eqv (.int i) (.int k) = decide (i = k) := by rfl
theorem eqv_str {x y : Str} : eqv (.str x) (.str y) = (x == y) := by rfl
theorem eqv_bl {x y : Bool} : eqv (.bl x) (.bl y) = (x == y) := by rfl
/-! ### texts -/
def tI (n : Int) : Str := Str.ofString (toString n)
theorem lit_ok (s : String) : (Str.ofString s).cps.all (· < 0x110000) = true := by
  rw [Str.ofString_eq_toList]
  rw [Array.all_eq_true']
  intro c hc
  have hc : c ∈ (s.toList.map Char.toNat).toArray := hc
  obtain ⟨ch, _, rfl⟩ := List.mem_map.mp (by simpa using hc)
  have h2 : ch.toNat < 0x110000 := by
    rcases ch.valid with z | ⟨_, z⟩
    · exact Nat.lt_trans z (by decide)
    · exact z
  exact decide_eq_true h2
theorem tI_okc (n : Int) : (tI n).cps.all (· < 0x110000) = true := lit_ok _
theorem app_okc {x y : Str} (h1 : x.cps.all (· < 0x110000) = true) (h2 : y.cps.all (· < 0x110000) = true) : (x ++ y).cps.all (· < 0x110000) = true := by
  show (x.cps ++ y.cps).all (· < 0x110000) = true
  rw [Array.all_append, h1, h2]
  rfl
theorem pg_str {n : Nat} {x : Str} (h : x.cps.all (· < 0x110000) = true) : pg (n + 1) (.str x) = true := by
  unfold pg
  exact h
theorem tI_len {n : Int} (h : n.natAbs.log2 < 1920) : (tI n).length ≤ 1921 := int_text_len_1921 h
theorem log_small {n : Nat} (h : n < 2 ^ 64) : n.log2 < 1920 := by
  by_cases z : n = 0
  · subst z
    decide
  · exact Nat.lt_trans ((Nat.log2_lt z).mpr h) (by decide)
theorem gStr_int {n : Int} (h : n.natAbs.log2 < 1920) : gStr [.int n] = some (.im (.str (tI n))) := if_pos h
theorem fmtD_int {n : Int} (h : n.natAbs.log2 < 1920) : fmtD (.int n) = some (.im (.str (tI n))) := if_pos h
def jK (ms : List (DM RV)) (acc : Str) (r : RV) (ρ1 : SE) : R RV := match r with
  | .im (.str y) => if (acc ++ y).length ≤ 1000000 then jGo ms (acc ++ y) ρ1 else .bad
  | _ => .bad
section
variable {ρ : SE} {Q : RV → SE → Prop} {E : Exc → SE → Prop} {m : DM RV} {ms : List (DM RV)} {acc y : Str}
@[simp ↓, simp] theorem u_jNil {c : Cont RV} : Wp (jGo [] acc ρ) = Wp (.ok (.im (.str acc)) ρ : R RV) := rfl
@[simp ↓, simp] theorem u_jCons {c : Cont RV} : Wp (jGo (m :: ms) acc ρ) = Wp ((m ρ).bind fun r ρ1 => jK ms acc r ρ1 : R RV) := rfl
@[simp ↓, simp] theorem w_jK : WP (jK ms acc (.im (.str y)) ρ) Q E = ((acc ++ y).length ≤ 1000000 ∧ WP (jGo ms (acc ++ y) ρ) Q E) := by
  show WP (if (acc ++ y).length ≤ 1000000 then jGo ms (acc ++ y) ρ else .bad) Q E = _
  by_cases h : (acc ++ y).length ≤ 1000000
  · rw [if_pos h]
    exact propext ⟨fun q => ⟨h, q⟩, fun q => q.2⟩
  · rw [if_neg h]
    exact propext ⟨fun q => (wp_bad.mp q).elim, fun q => absurd q.1 h⟩
end
end DL

/- part -/
set_option Elab.async false
set_option linter.all false
set_option maxRecDepth 100000
set_option maxHeartbeats 1000000
namespace DL
open PySem PySem.Spec PyProof.Rows L2
/-! ### a lambda handed on: f(lambda: ..) where f is `def f(a): return g(a)[0]` -/
theorem mem_frs {e : Env} {outer : List Env} {c : Addr} (h : c ∈ frs (e :: outer)) : e.frame = some c ∨ c ∈ frs outer := by
  unfold frs at h
  rw [List.filterMap_cons] at h
  split at h
  · exact .inr h
  · rename_i L hL
    rcases List.mem_cons.mp h with z | z
    · rw [z]; exact .inl hL
    · exact .inr z
theorem frs_in {e : Env} {outer : List Env} {c : Addr} (h : c ∈ frs outer) : c ∈ frs (e :: outer) := by
  unfold frs
  rw [List.filterMap_cons]
  split
  · exact h
  · exact List.mem_cons_of_mem _ h
theorem un_comp {e : Env} {outer : List Env} {H H1 H2 : Hp} {h h1 h2 : Heap} (a : Un (frs outer) [] H H1 h h1) (b : Un (frs (e :: outer)) [] H1 H2 h1 h2) (he : ∀ L, e.frame = some L → h.objs.size ≤ L) : Un (frs outer) [] H H2 h h2 where
  keep := fun c ob q n hc hx => b.keep c ob (a.keep c ob q n hc hx) (a.free c ob q n hx) (fun z => by
    rcases mem_frs z with w | w
    · exact Nat.lt_irrefl _ (Nat.lt_of_lt_of_le (Heap.lt_size q) (he c w))
    · exact hc w) hx
  slot := fun c ob q n hc hx => by
    obtain ⟨sl, e1⟩ := a.slot c ob q n hc hx
    obtain ⟨sl', e2⟩ := b.slot c _ e1 (a.free c ob q n hx) (frs_in hc) hx
    exact ⟨sl', e2⟩
  free := fun c ob q n hx => by
    obtain ⟨o', e1⟩ := a.there c ob q hx
    exact b.free c o' e1 (a.free c ob q n hx) hx
  there := fun c ob q hx => by
    obtain ⟨o', e1⟩ := a.there c ob q hx
    exact b.there c o' e1 hx
  tups := fun c xs q => b.tups c xs (a.tups c xs q)
  frzs := fun c ob xs q => b.frzs c ob xs (a.frzs c ob xs q)
  tbls := fun c ps q => by
    obtain ⟨m1, e1⟩ := a.tbls c ps q
    obtain ⟨m2, e2⟩ := b.tbls c _ e1
    exact ⟨m1 ++ m2, by rw [e2, Array.append_assoc]⟩
section
variable {X : Cx} {pins : List (Addr × Obj)} {σ : L2.St} {H HZ : Hp} {s s1 : Shared}
/-- a(), where a got the lambda, in any frame over the one that made it -/
theorem pe_actZ {CXg : CXT} {Eg : XK} {Ng : List Str} {qg : Str} {sg : Scope} {g f c' : Addr} {cdg pm ctv : Value} {params : Arguments} {body : Expr} {scope : Scope} {k i : Nat} {a : Str} {pn : List (Addr × Obj)} {xe : Value → Shared → Prop} {W : WX} {E : XK} {tb : TE} {p1 p2 : Pos} {A2 : Around} {st2 : List Env} {s2 : Shared} {H2 : Hp}
    (I : Inv X pins σ H s) (L : LamX.LamS X.env.scope scope)
    (hof : ∀ (pinsZ : List (Addr × Obj)) (σZ : L2.St) (HZ : Hp) (sZ : Shared), Inv ((cxOf CXg X.prog X.w X.K X.mg X.base Ng qg sg g cdg A2 st2 s2 H2 Eg).tr pn xe) pinsZ σZ HZ sZ → sZ.heap.get? f = some (PySem.W.kla_obj "<lambda>" (X.env.qual ++ "<lambda>") params body scope (cloFrom X.env.cells scope.names []) pm c' ctv) ∧ Un (frs X.stack) [] H HZ s.heap sZ.heap)
    (hbind : bindArgs (PySem.W.kla_fn "<lambda>" (X.env.qual ++ "<lambda>") params body scope (cloFrom X.env.cells scope.names []) pm (.ref c') ctv) ⟨[], []⟩ = pure [])
    (tk : Takes ((cxOf CXg X.prog X.w X.K X.mg X.base Ng qg sg g cdg A2 st2 s2 H2 Eg).tr pn xe) W) (hW : ∀ cls d σ' H', E cls d H' → W cls d σ' H') (hr : Room (k + 1) (A2.deeper (envOfC qg sg s2.heap.objs.size g cdg)))
    (hbody : ∀ (A : Around) (outer : List Env) (s : Shared) (H : Hp), Room k (A.deeper (LamX.lamEnv X scope s.heap.objs.size f c')) → PE (LamX.lamCx X A outer s H E scope f c') body tb)
    (hN : Ng[i]? = some a) (hv : Vis sg a) (hd : (a == ("__debug__" : Str)) = false := by decide) (hcd : (a == ("__classdict__" : Str)) = false := by decide) :
    PE ((cxOf CXg X.prog X.w X.K X.mg X.base Ng qg sg g cdg A2 st2 s2 H2 Eg).tr pn xe) (.Call (.Name a p1) [] [] p2)
      (fun σZ HZ Q => σZ[i]? = some (some (.ref f)) ∧ HZ c' = some (LamX.CodeO c' (X.env.qual ++ "<lambda>")) ∧ tb σ HZ Q) := by
  refine ⟨fun pz sz σz hz Q J ⟨w1, w2, w3⟩ => ?_⟩
  refine wpAny_Call_Name_kw (thn ((pe_var (pos := p1) (i := i) hN hv hd hcd).run pz sz σz hz (fun v G => v = .ref f ∧ G = hz) J ⟨.ref f, w1, rfl, rfl⟩) fun u t ⟨v, G, J1, r1, ev, eG⟩ => ?_)
  subst ev eG
  obtain rfl : u = Value.ref f := r1
  obtain ⟨fo, un⟩ := hof _ _ _ _ J1
  refine PySem.W.callWith_F0 ⟨_, _, _, _, fo⟩ ?_
  obtain ⟨⟨oc, vs, tok, y1, y2, y3⟩, _, _⟩ := J1.hok c' _ w2
  have run : codeAny (model X.prog X.w) (A2.deeper (envOfC qg sg s2.heap.objs.size g cdg)) (.call (.ref f) ⟨[], []⟩) (CR (L2.CX X.prog X.w) (envOfC qg sg s2.heap.objs.size g cdg :: st2) X.prog X.w G t Q E) t := by
    refine PySem.W.kla_callFunE hr.depth fo rfl L.co L.gen rfl ⟨c', oc, vs, tok, rfl, y1, y2, y3⟩ ?_
    rw [hbind]
    refine wpAny_pure (wpAny_newFunctionEnv (fun y hy => (L.own y hy).2) (fun y hy => absurd hy (by simp)) (fun g1 hns hsb => ⟨J1.nolimit.fresh _ hsb, (?_ : codeAny _ _ (.expr body (LamX.lamEnv X scope t.heap.objs.size f c')) _ _)⟩) L.kind)
    have up : ∀ b o, t.heap.get? b = some o → g1.get? b = some o := fun b o e => hsb.extBut b o (Nat.ne_of_lt (Heap.lt_size e)) (Heap.get?_push_of_some _ e)
    have J2 : Inv (LamX.lamCx X (A2.deeper (envOfC qg sg s2.heap.objs.size g cdg)) (envOfC qg sg s2.heap.objs.size g cdg :: st2) t G E scope f c') [] σ G { t with heap := g1, toks := t.toks + ([] : List (Str × Value)).length } := LamX.lam_start2 I L J1.env0 hr.hd un hns up
    exact PySem.W.kla_codeExpr (wpAny_mono ((hbody _ _ t G (hr.deeper _)).run [] _ _ G Q J2 w3) (fun v s' ⟨v', H', J', rv, q⟩ => ⟨v', H', J'.os, J'.bare, J'.base, J'.hok, rv, q⟩) fun e s' hq => hq)
  have out : Passes (L2.CX X.prog X.w) ((cxOf CXg X.prog X.w X.K X.mg X.base Ng qg sg g cdg A2 st2 s2 H2 Eg).tr pn xe) E := passes_call tk hW
  refine wpAny_call (codeAny_mono run fun r s' hq => ?_)
  match r, hq with
  | .error e, hq => exact out pz σz G t e s' J1 hq
  | .ok (.ret u), hq => exact J1.after hq
  | .ok .next, hq => exact hq.elim
  | .ok .brk, hq => exact hq.elim
  | .ok .cont, hq => exact hq.elim
end
end DL

/- part -/
set_option Elab.async false
set_option linter.all false
set_option maxRecDepth 100000
set_option maxHeartbeats 1000000
namespace DL
open PySem PySem.Spec PyProof.Rows L2
/-- what g(a)[0] makes of it -/
def TTfst (K : PySem.W.Frag) (TT : (XK → Hp → VK → Prop) → Hp → VK → Prop) : (XK → Hp → VK → Prop) → Hp → VK → Prop := fun tl H Q => TT tl H fun v H' => rIx K v (.int 0) H' Q
section
variable {X : Cx}
theorem pe_lamfst {T : List (Addr × Str)} {TT : (XK → Hp → VK → Prop) → Hp → VK → Prop} {x y a a2 : Str} {g g2 c P : Addr} {k : Nat} {pg pg2 : Arguments} {bg2 : List Stmt} {sg sg2 : Scope} {dV kV doc pm cdv ct oc dV2 kV2 doc2 pm2 cdv2 ct2 oc2 : Value} {an od an2 od2 : Option Addr} {osl osl2 : Array (Option Value)} {Ng Ng2 : List Str}
    {params : Arguments} {body : Expr} {scope : Scope} {t : XK → TE} {p lpos pos q1 q2 q3 q4 q5 q6 : Pos} {kz : Nat}
    (hg : Gl X x) (hm : X.mg x = some (.ref g)) (hk : PySem.W.keepIn X.K (.ref g) = true)
    (lk : X.K.lookup g = some ⟨oc, od, .func (PySem.W.fnOf x x pg [.Return (some (.Subscript (.Call (.Name y q1) [.Name a q2] [] q3) (.Constant (.int 0) kz q4) q5)) q6] sg dV kV doc pm an cdv ct), osl⟩) (hcg : PySem.W.codeIn X.K cdv x = true) (hb : L2.Binds X.K (PySem.W.fnOf x x pg [.Return (some (.Subscript (.Call (.Name y q1) [.Name a q2] [] q3) (.Constant (.int 0) kz q4) q5)) q6] sg dV kV doc pm an cdv ct) [a] []) (Sg : FnScope Ng [a] sg) (hNg : Ng[0]? = some a) (hva : Vis sg a)
    (gy : sg.names.lookup y = some .globalImplicit) (hm2 : X.mg y = some (.ref g2)) (hk2 : PySem.W.keepIn X.K (.ref g2) = true)
    (lk2 : X.K.lookup g2 = some ⟨oc2, od2, .func (PySem.W.fnOf y y pg2 bg2 sg2 dV2 kV2 doc2 pm2 an2 cdv2 ct2), osl2⟩) (hcg2 : PySem.W.codeIn X.K cdv2 y = true) (hb2 : L2.Binds X.K (PySem.W.fnOf y y pg2 bg2 sg2 dV2 kV2 doc2 pm2 an2 cdv2 ct2) [a2] []) (Sg2 : FnScope Ng2 [a2] sg2) (hNg2 : Ng2[0]? = some a2) (hva2 : Vis sg2 a2)
    (hG : ∀ (A : Around) (st : List Env) (s : Shared) (H : Hp), Room (k + 2) (A.deeper (envOfC x sg s.heap.objs.size g cdv)) → LamX.GivesTo (cxOf C8.CX0 X.prog X.w X.K X.mg X.base Ng x sg g cdv A st s H C8.E0).nox Ng2 y sg2 g2 cdv2 bg2 a2 (X.env.qual ++ "<lambda>") TT)
    (TB : LamX.TabB X.base X.mg c P) (hcode : X.env.code = .ref c) (hmT : (P, X.env.qual ++ "<lambda>") ∈ T) (hu : ∀ p ∈ T, p.1 = P → p.2 = X.env.qual ++ "<lambda>") (hr : Room (k + 3) X.A) (L : LamX.LamS X.env.scope scope) (hdef : defaultsOf params X.env = ([], []))
    (h0 : ∀ f : Addr, (L2.start Ng [V.ref f])[0]? = some (some (V.ref f))) (hbind : ∀ (q : Str) (cl : List (Str × Addr)) (pm cv ctv : Value), bindArgs (PySem.W.kla_fn "<lambda>" q params body scope cl pm cv ctv) ⟨[], []⟩ = pure [])
    (hbody : ∀ (A : Around) (outer : List Env) (s : Shared) (H : Hp) (E : XK) (f c' : Addr), Room k (A.deeper (LamX.lamEnv X scope s.heap.objs.size f c')) → PE (LamX.lamCx X A outer s H E scope f c') body (t E))
    (hdb : (x == ("__debug__" : Str)) = false := by decide) (hdy : (y == ("__debug__" : Str)) = false := by decide) (hd : (a == ("__debug__" : Str)) = false := by decide) (hcd : (a == ("__classdict__" : Str)) = false := by decide) (hd2 : (a2 == ("__debug__" : Str)) = false := by decide) (hcd2 : (a2 == ("__classdict__" : Str)) = false := by decide) :
    PE X (.Call (.Name x p) [.Lambda params body scope lpos] [] pos) (LamX.tLam T (TTfst X.K TT) t) := by
  refine ⟨fun pins s σ H Q I ⟨hT, h⟩ => ?_⟩
  refine wpAny_Call_Name_kw (ld_glob I hg hm (PySem.W.callWith_K (h₀ := X.base) I.ok.mod.kin hk (?_ : wpAny _ _ (spliced ((false, eval (.Lambda params body scope lpos) X.env) :: backTo pos (starEach [] X.env))) _ _ s) (by rfl) (by rfl)) hdb)
  refine Calls.spliced_cons (LamX.lam_make2 I TB hcode hmT hu hT hdef (L.has I.ok) fun f c' pm' ctv H1 s' I1 eN T1 hf hfn hfr hco => Calls.spliced_nil ⟨I1.kIn, ?_⟩)
  have want := h H1 eN T1
  have run : codeAny (model X.prog X.w) X.A (.call (.ref g) ⟨[.ref f], []⟩) (CR C8.CX0 X.stack X.prog X.w H1 s' Q C8.E0) s' := by
    refine LamX.run_ofS (N := Ng) (ps := [a]) (us := [.ref f]) (vs := [.ref f]) lk hcg Sg hr I1.env0 (hb s' [.ref f] I1.kIn rfl) (.cons rfl .nil) rfl fun hr' => ?_
    have gl : Gl (cxOf C8.CX0 X.prog X.w X.K X.mg X.base Ng x sg g cdv X.A X.stack s' H1 C8.E0).nox y := gy
    have call : PE (cxOf C8.CX0 X.prog X.w X.K X.mg X.base Ng x sg g cdv X.A X.stack s' H1 C8.E0).nox (.Call (.Name y q1) [.Name a q2] [] q3) (fun σZ HZ R => σZ[0]? = some (some (.ref f)) ∧ HZ c' = some (LamX.CodeO c' (X.env.qual ++ "<lambda>")) ∧ TT (fun E H' Q' => t E σ H' Q') HZ R) := by
      refine ⟨fun pz sz σz hz R J ⟨w1, w2, w3⟩ => ?_⟩
      refine wpAny_Call_Name_kw (ld_glob J gl hm2 (PySem.W.callWith_K (h₀ := X.base) J.ok.mod.kin hk2 (?_ : wpAny _ _ (spliced ((false, eval (.Name a q2) _) :: backTo q3 (starEach [] _))) _ _ sz) (by rfl) (by rfl)) hdy)
      refine Calls.spliced_cons (thn ((pe_var (pos := q2) (i := 0) hNg hva hd hcd).run pz sz σz hz (fun v G => v = .ref f ∧ G = hz) J ⟨.ref f, w1, rfl, rfl⟩) fun u s1 ⟨v, G, J1, r1, ev, eG⟩ => Calls.spliced_nil ⟨J1.kIn, ?_⟩)
      subst ev eG
      obtain rfl : u = Value.ref f := r1
      have inner : codeAny (model X.prog X.w) (X.A.deeper (envOfC x sg s'.heap.objs.size g cdv)) (.call (.ref g2) ⟨[.ref f], []⟩) (CR C8.CX0 (envOfC x sg s'.heap.objs.size g cdv :: X.stack) X.prog X.w G s1 R C8.E0) s1 := by
        refine LamX.run_ofS (N := Ng2) (ps := [a2]) (us := [.ref f]) (vs := [.ref f]) lk2 hcg2 Sg2 hr' J1.env0 (hb2 s1 [.ref f] J1.kIn rfl) (.cons rfl .nil) rfl fun hr2 => ?_
        have act : ∀ (W : WX) (pn : List (Addr × Obj)) (xe : Value → Shared → Prop) (E : XK) (p1 p2 : Pos), Takes ((cxOf C8.CX0 X.prog X.w X.K X.mg X.base Ng2 y sg2 g2 cdv2 (X.A.deeper (envOfC x sg s'.heap.objs.size g cdv)) (envOfC x sg s'.heap.objs.size g cdv :: X.stack) s1 G C8.E0).tr pn xe) W → (∀ cls d σ' H', E cls d H' → W cls d σ' H') →
            PE ((cxOf C8.CX0 X.prog X.w X.K X.mg X.base Ng2 y sg2 g2 cdv2 (X.A.deeper (envOfC x sg s'.heap.objs.size g cdv)) (envOfC x sg s'.heap.objs.size g cdv :: X.stack) s1 G C8.E0).tr pn xe) (.Call (.Name a2 p1) [] [] p2) (fun σZ HZ Q => σZ[0]? = some (some (.ref f)) ∧ HZ c' = some (LamX.CodeO c' (X.env.qual ++ "<lambda>")) ∧ t E σ HZ Q) := by
          intro W pn xe E p1 p2 tk hW
          refine pe_actZ (X := X) (CXg := C8.CX0) (Eg := C8.E0) (Ng := Ng2) (qg := y) (sg := sg2) (g := g2) (cdg := cdv2) (A2 := X.A.deeper (envOfC x sg s'.heap.objs.size g cdv)) (st2 := envOfC x sg s'.heap.objs.size g cdv :: X.stack) (s2 := s1) (H2 := G) (k := k) (i := 0) (pm := pm') (ctv := ctv) I1 L (fun pz' σz' hz' sz' JZ => ?_) (hbind _ _ _ _ _) tk hW hr2 (fun A outer s H hr3 => hbody A outer s H E f c' hr3) hNg2 hva2 hd2 hcd2
          have u1 : Un (frs X.stack) [] H1 G s'.heap s1.heap := J1.base
          have u2 : Un (frs (envOfC x sg s'.heap.objs.size g cdv :: X.stack)) [] G hz' s1.heap sz'.heap := JZ.base
          have un := un_comp u1 u2 fun L e => by
            cases e
            exact Nat.le_refl _
          exact ⟨un.keep f _ hf hfn hfr (by simp), un⟩
        obtain ⟨t', ht', hq'⟩ := hG X.A X.stack s' H1 hr' f c' s1 G R (fun E H' Q' => t E σ H' Q') act w2 w3
        exact ⟨t', ht'.nox, hq'⟩
      refine wpAny_call (codeAny_mono inner fun r s2 hq => ?_)
      match r, hq with
      | .error e, hq => exact hq.elim
      | .ok (.ret u), hq => exact J1.after hq
      | .ok .next, hq => exact hq.elim
      | .ok .brk, hq => exact hq.elim
      | .ok .cont, hq => exact hq.elim
    have st := pss_one (ps_ret (pos := q6) (pe_ix (pos := q5) ix_seq call (pe_int (X := (cxOf C8.CX0 X.prog X.w X.K X.mg X.base Ng x sg g cdv X.A X.stack s' H1 C8.E0).nox) (i := 0) (j := kz) (pos := q4)) (fun _ _ => rfl)))
    exact ⟨_, st.nox, ⟨h0 f, hco, want⟩⟩
  refine wpAny_call (codeAny_mono run fun r s2 hq => ?_)
  match r, hq with
  | .error e, hq => exact hq.elim
  | .ok (.ret u), hq => exact I1.after hq
  | .ok .next, hq => exact hq.elim
  | .ok .brk, hq => exact hq.elim
  | .ok .cont, hq => exact hq.elim
end
structure TagSc (so : Scope) : Prop where
  Sg : FnScope ["_law_ask"] ["_law_ask"] so
  va : Vis so "_law_ask"
  g : so.names.lookup ("_law_outcome" : Str) = some .globalImplicit
section
variable {P : Program} {w : World} {base : Heap} {N : List Str} {sc : Scope} {j : Nat}
variable {M : Mx} {W : WX} {X : Cx} {F H F' H' F1 H1 F2 H2 H0 : Hp} {σ σ1 : L2.St} {ρ ρ1 ρ2 : SE}
/-- _law_tag(lambda: ..) -/
theorem de_tag {st stF stT : Stmt} {ok : Str → Bool} {mF : SE → R RV} {c Pt : Addr} {k : Nat} {mb : DM RV} {params : Arguments} {body : Expr} {scope : Scope} {p lpos pos : Pos} {p1 p2 p3 p4 p5 p6 p7 p8 p9 p10 p11 p12 p13 p14 p15 p16 p17 p18 q1 q2 q3 q4 q5 q6 : Pos} {jj k1 k2 k3 kz : Nat}
    (C : CxL P w base M N sc j X W c Pt) (O : OutAt M st stF ok mF) (S : OutSc (defScope st)) (dT : DefAt M "_law_tag" stT ["_law_ask"]) (S2 : TagSc (defScope stT)) (g : GlOk sc "_law_tag") (hj : k + 3 ≤ j) (L : LamX.LamS sc scope)
    (hb : ∀ (Xl : Cx) (E : XK), CxD P w base M N scope k Xl (fun cls d _ H => E cls d H) → DE Xl M (fun cls d _ H => E cls d H) body mb)
    (hbody : defBody st = [.Try [.Return (some (.Tuple [.Constant (.str "") jj p1, .Call (.Name "_law_ask" p2) [] [] p3] k1 p4)) p5]
      [.ExceptHandler (some (.Tuple [.Name "EarlyError" p6, .Name "UndefinedName" p7, .Name "EmptyHistory" p8] k2 p9)) (some "_law_e") [.Return (some (.Tuple [.Attribute (.Name "_law_e" p10) "tag" p11, .Call (.Name "_law_field" p12) [.Name "_law_e" p13] [] p14] k3 p15)) p16] p17] [] [] p18] := by rfl)
    (hbT : defBody stT = [.Return (some (.Subscript (.Call (.Name "_law_outcome" q1) [.Name "_law_ask" q2] [] q3) (.Constant (.int 0) kz q4) q5)) q6] := by rfl)
    (hdef : defaultsOf params X.env = ([], []) := by rfl)
    (hbind : ∀ (q : Str) (cl : List (Str × Addr)) (pm cv ctv : Value), bindArgs (PySem.W.kla_fn "<lambda>" q params body scope cl pm cv ctv) ⟨[], []⟩ = pure [] := by intros; rfl) :
    DE X M W (.Call (.Name "_law_tag" p) [.Lambda params body scope lpos] [] pos) (dOp2 ixD (dOut mF ok mb) (dC (.int 0))) := by
  obtain ⟨dO, dF, e1, e2, e3, m1, m2, m3, cau, fq⟩ := O
  obtain ⟨fO, fdO, gO, kO, bO, uO⟩ := dO
  obtain ⟨fF, fdF, gF, kF, bF, uF⟩ := dF
  obtain ⟨fT, fdT, gT, kT, bT, uT⟩ := dT
  have CD := C.toCxF.toCxD
  have fq := fq X.prog X.w X.base
  have hP := CD.hP
  have hw := CD.hw
  have hB := CD.hB
  subst hP hw hB
  have hK := CD.hK
  have hM := CD.hM
  have hN := CD.hN
  have hs := CD.hs
  have Q := q_out (W := W) (mb := mb) (mF := mF) cau
  have o2 : Op2 M (rIx M.K) ixD := o2_ix
  rw [hK] at kO bO uO kF bF uF kT bT uT fq Q o2
  rw [hM] at gO gF gT m1 m2 m3 fq
  obtain ⟨oc, od, kV, doc, pm, an, cdv, ct, osl, efd, lk, hcd⟩ := uO.ex
  obtain ⟨oc', od', kV', doc', pm', an', cdv', ct', osl', efd', lk', hcd'⟩ := uT.ex
  subst efd efd'
  rw [hbT] at lk' bT
  have hr2 : Room (k + 3) X.A := CD.hr.mono hj
  refine ⟨_, pe_lamfst (TT := TTout X.K (spD M 1 mF) [.ref e1, .ref e2, .ref e3]) (Ng := ["_law_ask"]) (Ng2 := ["_law_ask", "_law_e"]) (a := "_law_ask") (a2 := "_law_ask") (k := k) (T := M.T) (CD.glo g) gT kT lk' hcd' bT S2.Sg rfl S2.va S2.g gO kO lk hcd bO S.Sg rfl S.va (fun A2 st2 s2 H2 hr3 => ?_) C.tb C.code C.mT C.uT hr2 (by rw [hs]; exact L) hdef (fun f => rfl) hbind (t := fun E => canE M (fun cls d _ H' => E cls d H') mb) (fun A outer s H E f c' hr3 => DE.can (hb _ E ?_)) g.nd, ?_⟩
  · rw [hbody]
    exact out_gives (X := (cxOf C8.CX0 X.prog X.w X.K X.mg X.base ["_law_ask"] "_law_tag" (defScope stT) fT cdv' A2 st2 s2 H2 C8.E0).nox) rfl S.Sg.nd S.Sg.kind S.va S.le (by decide) (by decide) S.g1 S.g2 S.g3 S.g4 (by decide) (by decide) (by decide) (by decide) m1 m2 m3 gF fq kF bF (hr3.mono (by omega))
  · exact ⟨rfl, rfl, rfl, hK, hM, hN, rfl, L.kind, CD.nd, rfl, hr3, takes_of rfl rfl rfl rfl⟩
  · intro σ H F ρ R sm h
    have z := Q σ H F ρ (fun v H' => rIx X.K v (.int 0) H' R) sm (Post.go h fun x ρ1 F1 H1 v _ st1 sm1 ok1 h1 => ?_)
    · exact z
    · have h2 : Post M W σ ρ F H (ofO ((look ρ1 x).bind fun d => ixD d (.int 0)) ρ1) R := h1
      obtain ⟨rv, e, k'⟩ := Post.fin' h2 st1 sm1
      obtain ⟨d, l1, hg⟩ := bind_some1 e
      exact o2 F1 H1 v (.int 0) d (.int 0) rv R sm1.sub (ok1.view0 sm1 l1) (.int 0) hg k'
end
end DL

/- part -/
set_option Elab.async false
set_option linter.all false
set_option maxRecDepth 100000
set_option maxHeartbeats 1000000
namespace DL
open PySem PySem.Spec PyProof.Rows L2
/-! ### a lambda with one parameter that has a default -/
abbrev laD_fn (qual : Str) (params : Arguments) (body : Expr) (scope : Scope) (cl : List (Str × Addr)) (T : Addr) (pm cdv ct : Value) : FuncData :=
  { name := "<lambda>", qualname := qual, params, body := .expr body, scope, globals := mainGlobals, closure := cl, defaults := .ref T, kwdefaults := .none, doc := .none, pyModule := pm, annotations := none, code := cdv, closureTuple := ct, builtins := builtinsNs }
abbrev laD_obj (qual : Str) (params : Arguments) (body : Expr) (scope : Scope) (cl : List (Str × Addr)) (T : Addr) (pm : Value) (c' : Addr) (ctv : Value) : Obj :=
  { cls := .type "function", data := .func (laD_fn qual params body scope cl T pm (.ref c') ctv) }
section
variable {M : Model} {A : Around} {E : Value → Shared → Prop} {s : Shared} {qual : Str} {params : Arguments} {body : Expr} {scope : Scope} {env : Env} {c P T : Addr} {ps : Array Value} {pos : Pos} {firstLine : Nat} {mg : Str → Option Value}
  {clos : List (Str × Addr)} {Q : Value → Shared → Prop}
theorem laD_tail (hcl : closureFor scope env = pure clos) (hge0 : env.globals = mainGlobals) (hg : s.heap.Ns mainGlobals mg) (hcode : env.code = .ref c) (C : PySem.W.CodeHd s.heap c P) (hP : s.heap.get? P = some { cls := .none, data := .fields ps }) (ht : TriplesOk ps.toList)
    (hnf : codeAmong pos ps.toList = none) (hgP : mainGlobals ≠ P) (hb : s.heap.BuiltinsAt mg P)
    (h : ∀ c' ctv g tk, Heap.ExtBut P s.heap g → s.heap.objs.size ≤ c' → c' < g.objs.size → g.CodeRec (.ref c') qual → g.get? P = some { cls := .none, data := .fields (ps ++ #[rawInt pos.line, rawInt pos.col, .ref c']) } →
      Q (.ref g.objs.size) { s with heap := g.push (laD_obj qual params body scope clos T ((mg "__name__").getD .none) c' ctv), toks := tk }) :
    wpAny M A (makeTail "<lambda>" qual params (.expr body) scope env (.ref T) .none none pos firstLine) Q E s := by
  obtain ⟨bm, ob, y1, y2, _, y3, y4, y5, y6, y7⟩ := hb
  unfold makeTail
  rw [hcl, hge0]
  refine wpAny_bind (wpAny_pure ?_)
  match clos with
  | [] =>
    simp only [if_true, List.isEmpty_nil]
    refine wpAny_bind (wpAny_pure (wpAny_bind (wpAny_functionCodeX hcode (C.code hP ht) (C.tab hP) hnf fun c' g tk hx hge hlt _ hrec htb _ => ?_)))
    have g2 := hg.extBut hx hgP
    exact wpAny_bind (wpAny_builtinsFor g2 y1 y2 (hx _ _ y3 y4) y5 y6 y7 (wpAny_bind (wpAny_nsGet g2 (wpAny_bind (wpAny_pure (wpAny_newObj_type (h c' .none g tk hx hge hlt hrec htb.2) (by size_fits)))))))
  | q :: r =>
    simp only [Bool.false_eq_true, List.isEmpty_cons, if_false]
    have C2 : ∀ o : Obj, PySem.W.CodeHd (s.heap.push o) c P := fun o => C.keeps fun b u e => Heap.get?_push_of_some _ e
    refine wpAny_bind (wpAny_newTextTuple (wpAny_bind (wpAny_functionCodeX hcode ((C2 _).code (Heap.get?_push_of_some _ hP) ht) ((C2 _).tab (Heap.get?_push_of_some _ hP)) hnf fun c' g tk hx hge hlt _ hrec htb _ => ?_)))
    have g2 := (hg.push _).extBut hx hgP
    have hx2 : Heap.ExtBut P s.heap g := fun b o n e => hx b o n (Heap.get?_push_of_some _ e)
    exact wpAny_bind (wpAny_builtinsFor g2 y1 y2 (hx2 _ _ y3 y4) y5 y6 y7 (wpAny_bind (wpAny_nsGet g2 (wpAny_bind (wpAny_pure (wpAny_newObj_type (h c' _ g tk hx2 (Nat.le_trans (by rw [Heap.size_push]; omega) hge) hlt hrec htb.2) (by size_fits)))))))
theorem laD_tailHit {cv : Value} (hcl : closureFor scope env = pure clos) (hge0 : env.globals = mainGlobals) (hg : s.heap.Ns mainGlobals mg) (hcode : env.code = .ref c) (C : PySem.W.CodeHd s.heap c P) (hP : s.heap.get? P = some { cls := .none, data := .fields ps }) (ht : TriplesOk ps.toList)
    (hf : codeAmong pos ps.toList = some cv) (hb : s.heap.BuiltinsAt mg P)
    (h : ∀ (ctv : Value) (g : Heap) (tk : Tok), (∀ b o, s.heap.get? b = some o → g.get? b = some o) → s.heap.objs.size ≤ g.objs.size →
      Q (.ref g.objs.size) { s with heap := g.push { cls := .type "function", data := .func (laD_fn qual params body scope clos T ((mg "__name__").getD .none) cv ctv) }, toks := tk }) :
    wpAny M A (makeTail "<lambda>" qual params (.expr body) scope env (.ref T) .none none pos firstLine) Q E s := by
  obtain ⟨bm, ob, y1, y2, _, y3, y4, y5, y6, y7⟩ := hb
  unfold makeTail
  rw [hcl, hge0]
  refine wpAny_bind (wpAny_pure ?_)
  match clos with
  | [] =>
    simp only [if_true, List.isEmpty_nil]
    refine wpAny_bind (wpAny_pure (wpAny_bind (wpAny_functionCode_hit hcode (C.code hP ht) hf ?_)))
    refine wpAny_bind (wpAny_builtinsFor hg y1 y2 y4 y5 y6 y7 (wpAny_bind (wpAny_nsGet hg ?_)))
    exact wpAny_bind (wpAny_pure (wpAny_newObj_type (h .none s.heap s.toks (fun _ _ e => e) (Nat.le_refl _)) (by size_fits)))
  | q :: r =>
    simp only [Bool.false_eq_true, List.isEmpty_cons, if_false]
    have C2 : ∀ o : Obj, PySem.W.CodeHd (s.heap.push o) c P := fun o => C.keeps fun b u e => Heap.get?_push_of_some _ e
    refine wpAny_bind (wpAny_newTextTuple (wpAny_bind (wpAny_functionCode_hit hcode ((C2 _).code (Heap.get?_push_of_some _ hP) ht) hf ?_)))
    refine wpAny_bind (wpAny_builtinsFor (hg.push _) y1 y2 (Heap.get?_push_of_some _ y4) y5 y6 y7 (wpAny_bind (wpAny_nsGet (hg.push _) ?_)))
    exact wpAny_bind (wpAny_pure (wpAny_newObj_type (h _ _ s.toks (fun b o e => Heap.get?_push_of_some _ e) (by rw [Heap.size_push]; omega)) (by size_fits)))
end
section
variable {X : Cx} {pins : List (Addr × Obj)} {σ : L2.St} {H : Hp} {s : Shared}
/-- an object that no one tracks and no frame is -/
def Loose (X : Cx) (H : Hp) (s : Shared) (f : Addr) (o : Obj) : Prop := s.heap.get? f = some o ∧ H f = none ∧ f ∉ frs X.stack
theorem nofrs {f : Addr} (I : Inv X pins σ H s) (hf : s.heap.objs.size ≤ f) : f ∉ frs X.stack := fun z => by
  rcases List.mem_cons.mp (I.stkSub _ z) with e | e
  · have h1 := I.lt
    rw [← e] at h1
    exact Nat.lt_irrefl _ (Nat.lt_of_lt_of_le h1 hf)
  · exact I.nofs hf e
/-- the tuple of one default -/
abbrev tup1 (v : Value) : Obj := { cls := .type "tuple", data := .seq #[v] }
theorem laD_make {Tb : List (Addr × Str)} {c P : Addr} {params : Arguments} {body : Expr} {scope : Scope} {pos pd : Pos} {n : Int} {jd : Nat} {E : Value → Shared → Prop} {Q : Value → Shared → Prop} (I : Inv X pins σ H s) (TB : LamX.TabB X.base X.mg c P) (hcode : X.env.code = .ref c)
    (hm : (P, X.env.qual ++ "<lambda>") ∈ Tb) (hu : ∀ p ∈ Tb, p.1 = P → p.2 = X.env.qual ++ "<lambda>") (hT : LamX.Tabs Tb H) (hdef : defaultsOf params X.env = ([eval (.Constant (.int n) jd pd) X.env], [])) (hkw : params.kwonlyargs = []) (hfree : ∀ y ∈ scope.names, y.2 = .free → ∃ c, X.env.cells.lookup y.1 = some c)
    (h : ∀ (f c' T : Addr) (t : Tok) (pm ctv : Value) (H1 : Hp) (s' : Shared), Inv X pins σ H1 s' → LamX.ExtN H H1 → LamX.Tabs Tb H1 →
      Loose X H1 s' f (laD_obj (X.env.qual ++ "<lambda>") params body scope (cloFrom X.env.cells scope.names []) T pm c' ctv) → Loose X H1 s' T (tup1 (.int n t)) → H1 c' = some (LamX.CodeO c' (X.env.qual ++ "<lambda>")) → Q (.ref f) s') :
    wpAny (model X.prog X.w) X.A (eval (.Lambda params body scope pos) X.env) Q E s := by
  rw [arm_eval_Lambda, hdef]
  show wpAny _ _ (evalAll [eval (.Constant (.int n) jd pd) X.env] >>= fun dv => holding dv (evalAllOpt []) >>= fun kdv => makeFunction "<lambda>" (X.env.qual ++ "<lambda>") params (.expr body) scope X.env dv kdv [] pos pos.line) Q E s
  refine wpAny_bind (wpAny_bind (wpAny_Constant_int (wpAny_bind (wpAny_holding (wpAny_pure (wpAny_pure (wpAny_bind (wpAny_holding (wpAny_pure ?_)))))))))
  rw [makeFunction_eq]
  simp only [hkw, List.zip_nil_right, List.filterMap_nil, List.isEmpty_cons, List.isEmpty_nil, if_true, pure_bind, Bool.false_eq_true, if_false]
  refine wpAny_bind (wpAny_newTextTuple ?_)
  have I0 : Inv X pins σ H { s with heap := s.heap.push (tup1 (.int n s.toks)), toks := s.toks + 1 } := I.kept fun b o e => Heap.get?_push_of_some _ e
  obtain ⟨ps, hP, ht, ha⟩ := hT _ hm
  have bP : (s.heap.push (tup1 (.int n s.toks))).BuiltinsAt X.mg P := TB.bm.keeps I0.bk
  have hP' : (s.heap.push (tup1 (.int n s.toks))).get? P = some { cls := .none, data := .fields ps } := I0.hok P _ hP
  have PT : s.heap.objs.size ≠ P := Nat.ne_of_gt (Heap.lt_size (I.hok P _ hP))
  have nT : H s.heap.objs.size = none := I.hok.fresh (Nat.le_refl _)
  have fT : s.heap.objs.size ∉ frs X.stack := nofrs I (Nat.le_refl _)
  have oT : (s.heap.push (tup1 (.int n s.toks))).get? s.heap.objs.size = some (tup1 (.int n s.toks)) := Heap.get?_push_size _ rfl
  have zs : (s.heap.push (tup1 (.int n s.toks))).objs.size = s.heap.objs.size + 1 := Heap.size_push ..
  cases hc : codeAmong pos ps.toList with
  | none =>
    refine laD_tail (mg := X.mg) (c := c) (P := P) (ps := ps) (closure_ok hfree) I.ok.glob (I0.mod.glob.keeps I0.bk) hcode (TB.code.keeps I0.bk) hP' ht hc TB.gP bP fun c' ctv g tk hx hge hlt hrec htb => ?_
    obtain ⟨c2, oc, vs, t, e2, hoc, hd, hv⟩ := hrec
    cases e2
    have hge : (s.heap.push (tup1 (.int n s.toks))).objs.size ≤ c' := hge
    have hsz : (s.heap.push (tup1 (.int n s.toks))).objs.size ≤ g.objs.size := Nat.le_trans hge (Nat.le_of_lt hlt)
    have nC : H c' = none := I0.hok.fresh hge
    have J := LamX.inv_table (t' := tk) (more := #[rawInt pos.line, rawInt pos.col, .ref c']) (h' := g.push (laD_obj (X.env.qual ++ "<lambda>") params body scope (cloFrom X.env.cells scope.names []) s.heap.objs.size ((X.mg "__name__").getD .none) c' ctv)) I0 hP
      (fun b o nb e => Heap.get?_push_of_some _ (hx b o nb e)) (Heap.get?_push_of_some _ htb) hge ⟨oc, vs, t, Heap.get?_push_of_some _ hoc, hd, hv⟩
    have hE : LamX.ExtN H (upd (upd H P (.tbl (ps ++ #[rawInt pos.line, rawInt pos.col, .ref c']))) c' (LamX.CodeO c' (X.env.qual ++ "<lambda>"))) := fun b o e nt => by
      rw [upd_ne (ne_of_none e nC), upd_ne (fun z => nt ps (Option.some.inj (e.symm.trans (by rw [z]; exact hP))))]
      exact e
    have eL : (ps ++ #[rawInt pos.line, rawInt pos.col, .ref c']).toList = ps.toList ++ [rawInt pos.line, rawInt pos.col, .ref c'] := by simp
    have tabs : LamX.Tabs Tb (upd (upd H P (.tbl (ps ++ #[rawInt pos.line, rawInt pos.col, .ref c']))) c' (LamX.CodeO c' (X.env.qual ++ "<lambda>"))) := fun p hp => by
      by_cases hb : p.1 = P
      · rw [hu p hp hb, hb]
        refine ⟨_, by rw [upd_ne (ne_of_none hP nC), upd_same], by rw [eL]; exact PySem.TriplesOk_snoc _ _ _ _ ht, fun p' cv hcv => ?_⟩
        rw [eL] at hcv
        rcases LamX.among_app _ ht hcv with z | z
        · obtain ⟨c0, a1, a2⟩ := ha p' cv z
          exact ⟨c0, a1, hE _ _ a2 LamX.codeO_ne⟩
        · exact ⟨c', z, upd_same⟩
      · obtain ⟨qs, a1, a2, a3⟩ := hT p hp
        refine ⟨qs, by rw [upd_ne (ne_of_none a1 nC), upd_ne hb]; exact a1, a2, fun p' cv hcv => ?_⟩
        obtain ⟨c0, b1, b2⟩ := a3 p' cv hcv
        exact ⟨c0, b1, hE _ _ b2 LamX.codeO_ne⟩
    have lift : ∀ f, f ≠ c' → f ≠ P → H f = none → upd (upd H P (.tbl (ps ++ #[rawInt pos.line, rawInt pos.col, .ref c']))) c' (LamX.CodeO c' (X.env.qual ++ "<lambda>")) f = none := fun f n1 n2 e => by
      rw [upd_ne n1, upd_ne n2]
      exact e
    have Tc : s.heap.objs.size ≠ c' := Nat.ne_of_lt (Nat.lt_of_lt_of_le (by rw [zs]; exact Nat.lt_succ_self _) hge)
    have gP : g.objs.size ≠ P := Nat.ne_of_gt (Nat.lt_of_lt_of_le (Heap.lt_size hP') hsz)
    exact h g.objs.size c' s.heap.objs.size s.toks _ ctv _ _ J hE tabs ⟨Heap.get?_push_size _ rfl, lift _ (Nat.ne_of_gt hlt) gP (I0.hok.fresh hsz), nofrs I0 hsz⟩ ⟨Heap.get?_push_of_some _ (hx _ _ PT oT), lift _ Tc PT nT, fT⟩ upd_same
  | some cv =>
    obtain ⟨c', e, hco⟩ := ha pos cv hc
    subst e
    refine laD_tailHit (mg := X.mg) (c := c) (P := P) (ps := ps) (closure_ok hfree) I.ok.glob (I0.mod.glob.keeps I0.bk) hcode (TB.code.keeps I0.bk) hP' ht hc bP fun ctv g tk hx hsz => ?_
    have J : Inv X pins σ H { s with heap := g.push (laD_obj (X.env.qual ++ "<lambda>") params body scope (cloFrom X.env.cells scope.names []) s.heap.objs.size ((X.mg "__name__").getD .none) c' ctv), toks := tk } := I.kept fun b o e => Heap.get?_push_of_some _ (hx b o (Heap.get?_push_of_some _ e))
    exact h g.objs.size c' s.heap.objs.size s.toks _ ctv H _ J (LamX.ExtN.refl H) hT ⟨Heap.get?_push_size _ rfl, I0.hok.fresh hsz, nofrs I0 hsz⟩ ⟨Heap.get?_push_of_some _ (hx _ _ oT), nT, fT⟩ hco
end
end DL

/- part -/
set_option Elab.async false
set_option linter.all false
set_option maxRecDepth 100000
set_option maxHeartbeats 1000000
namespace DL
open PySem PySem.Spec PyProof.Rows L2
/-- one parameter a that the body does not name, captured names and globals -/
structure LamD (sc scope : Scope) (a : Str) : Prop where
  kind : scope.kind = .function
  co : scope.isCoroutine = false
  gen : scope.isGenerator = false
  par : scope.names.lookup a = some .local
  own : ∀ y ∈ scope.names, y.2 ≠ .cell ∧ (y.2 = .local → y.1 = a)
  free : ∀ y ∈ scope.names, y.2 = .free → sc.names.lookup y.1 = some .cell ∨ sc.names.lookup y.1 = some .free
def lamDB (sc scope : Scope) (a : Str) : Bool :=
  decide (scope.kind = .function) && !scope.isCoroutine && !scope.isGenerator && decide (scope.names.lookup a = some .local) && scope.names.all fun y => !decide (y.2 = .cell) && (!decide (y.2 = .local) || decide (y.1 = a)) && (!decide (y.2 = .free) || decide (sc.names.lookup y.1 = some .cell) || decide (sc.names.lookup y.1 = some .free))
theorem lamD_by {sc scope : Scope} {a : Str} (h : lamDB sc scope a = true) : LamD sc scope a := by
  unfold lamDB at h
  simp only [Bool.and_eq_true, Bool.or_eq_true, Bool.not_eq_true', decide_eq_true_eq, decide_eq_false_iff_not, List.all_eq_true] at h
  obtain ⟨⟨⟨⟨h1, h2⟩, h3⟩, h5⟩, h4⟩ := h
  refine ⟨h1, h2, h3, h5, fun y hy => ⟨(h4 y hy).1.1, fun e => ?_⟩, fun y hy e => ?_⟩
  · rcases (h4 y hy).1.2 with z | z
    · exact absurd e z
    · exact z
  · rcases (h4 y hy).2 with (z | z) | z
    · exact absurd e z
    · exact .inl z
    · exact .inr z
theorem LamD.has {X : Cx} {scope : Scope} {a : Str} (L : LamD X.env.scope scope a) (ok : X.Ok) : ∀ y ∈ scope.names, y.2 = .free → ∃ c, X.env.cells.lookup y.1 = some c := fun y hy e => (L.free y hy e).elim (fun k => ok.has _ (.inl k)) fun k => ok.has _ (.inr k)
section
variable {X : Cx} {pins : List (Addr × Obj)} {σ : L2.St} {H HZ : Hp} {s s1 : Shared}
theorem lamD_start {A : Around} {outer : List Env} {E : XK} {scope : Scope} {f c' : Addr} {g1 : Heap} {tk : Nat} {a : Str} {va : Value} (I : Inv X pins σ H s) (L : LamD X.env.scope scope a) (na : a ∉ X.N) (e0 : Env0 X.prog X.w X.K X.mg X.base A outer s1 HZ) (hd : A.handled = none)
    (un : Un (frs X.stack) [] H HZ s.heap s1.heap) (hns : g1.Ns s1.heap.objs.size fun y => [(a, va)].reverse.lookup y) (kp : ∀ b o, s1.heap.get? b = some o → g1.get? b = some o) :
    Inv (LamX.lamCx X A outer s1 HZ E scope f c') [] σ HZ { s1 with heap := g1, toks := tk } := by
  have cm : ∀ {y c}, (cloFrom X.env.cells scope.names []).lookup y = some c → X.env.cells.lookup y = some c := fun {y c} e => by
    rcases cloFrom_mem (PySem.mem_of_lookup e) with hm | ⟨q1, q2⟩
    · cases hm
    · obtain ⟨c1, hc⟩ := L.has I.ok _ q1 rfl
      have hc : X.env.cells.lookup y = some c1 := hc
      rw [hc, show c = c1 from by rw [q2, hc] <;> rfl]
  have look : ∀ {y}, scope.names.lookup y = some .free → ∃ c, (cloFrom X.env.cells scope.names []).lookup y = some c := fun {y} hl => mem_lookup (cloFrom_has (cells := X.env.cells) (acc := []) (show (y, NameKind.free) ∈ scope.names from PySem.mem_of_lookup hl))
  have cellK : ∀ {c : Addr} {v : Option Value}, H c = none → s.heap.IsCell c v → g1.IsCell c v := fun {c v} n ⟨o, ho, hd⟩ => by
    obtain ⟨sl, q⟩ := un.any ho n (by simp)
    exact ⟨_, kp _ _ q, hd⟩
  have no : ∀ b : Addr, b ∉ (LamX.lamCx X A outer s1 HZ E scope f c').ex := fun b z => absurd (show b ∈ ([] : List Addr) from z) (by simp)
  refine ⟨⟨e0.mod, L.kind, rfl, rfl, Nat.le_refl _, fun y z c w1 w2 => I.ok.inj y z c (cm w1) (cm w2), fun y hy => ?_, fun y c z _ => ?_, fun _ => hd, Around.frames_deeper e0.frames, .inr ⟨rfl, rfl⟩, fun b z => absurd z (no b), e0.bs, e0.bsz, fun b _ _ => no b,
      fun b z => absurd z (no b), e0.funs, e0.frf⟩,
    rfl, e0.bare, Un.kept kp, ⟨_, hns, fun i y v w1 w2 w3 => ?_⟩, fun y c e => ?_, e0.hok.fresh (Nat.le_refl _), fun y c e => ?_, fun q hq => absurd (show q ∈ ([] : List (Addr × Obj)) ++ [] from hq) (by simp), e0.hok.kept kp, I.len⟩
  · rcases (show scope.names.lookup y = some .cell ∨ scope.names.lookup y = some .free from hy) with hy | hy
    · exact absurd rfl (L.own _ (PySem.mem_of_lookup hy)).1
    · exact look hy
  · exact absurd (show false = true from z) (by decide)
  · rcases (show Vis scope y from w3) with k | k | k
    · have ya : y = a := (L.own _ (PySem.mem_of_lookup k)).2 rfl
      exact absurd (List.mem_of_getElem? (show X.N[i]? = some y from w1)) (by rw [ya]; exact na)
    · exact absurd rfl (L.own _ (PySem.mem_of_lookup k)).1
    · obtain ⟨m, hn, hl⟩ := I.loc
      have hvis : Vis X.env.scope y := (L.free _ (PySem.mem_of_lookup k) rfl).elim (fun k => .inr (.inl k)) fun k => .inr (.inr k)
      obtain ⟨u', r, q⟩ := hl i y v w1 w2 hvis
      obtain ⟨c2, q2⟩ := look k
      refine ⟨u', r, .inr ⟨.inr k, c2, q2, ?_⟩⟩
      rcases q with ⟨k', _⟩ | ⟨_, c3, e', z⟩
      · have k' : X.env.scope.names.lookup y = some .local := k'
        rcases L.free _ (PySem.mem_of_lookup k) rfl with k2 | k2 <;> rw [show X.env.scope.names.lookup y = _ from k2] at k' <;> cases k'
      · rw [cm q2] at e'
        cases e'
        exact cellK (I.freeC y _ (cm q2)) z
  · obtain ⟨u', z⟩ := I.cell y c (cm e)
    exact ⟨u', cellK (I.freeC y c (cm e)) z⟩
  · obtain ⟨v, o, ho, hd⟩ := I.cell y c (cm e)
    exact un.free c o ho (I.freeC y c (cm e)) (by simp)
theorem pe_actD {CXg : CXT} {Eg : XK} {Ng : List Str} {qg : Str} {sg : Scope} {g f c' T : Addr} {cdg pm ctv : Value} {params : Arguments} {body : Expr} {scope : Scope} {k i : Nat} {a ad : Str} {pn : List (Addr × Obj)} {xe : Value → Shared → Prop} {W : WX} {E : XK} {tb : TE} {p1 p2 : Pos} {A2 : Around} {st2 : List Env} {s2 : Shared} {H2 : Hp} {va : Value}
    (I : Inv X pins σ H s) (L : LamD X.env.scope scope ad) (nad : ad ∉ X.N)
    (hof : ∀ (pinsZ : List (Addr × Obj)) (σZ : L2.St) (HZ : Hp) (sZ : Shared), Inv ((cxOf CXg X.prog X.w X.K X.mg X.base Ng qg sg g cdg A2 st2 s2 H2 Eg).tr pn xe) pinsZ σZ HZ sZ → (sZ.heap.get? f = some (laD_obj (X.env.qual ++ "<lambda>") params body scope (cloFrom X.env.cells scope.names []) T pm c' ctv) ∧ sZ.heap.get? T = some (tup1 va)) ∧ Un (frs X.stack) [] H HZ s.heap sZ.heap)
    (hbind : ∀ sZ : Shared, sZ.heap.get? T = some (tup1 va) → BindsTo sZ (laD_fn (X.env.qual ++ "<lambda>") params body scope (cloFrom X.env.cells scope.names []) T pm (.ref c') ctv) ⟨[], []⟩ [(ad, va)])
    (tk : Takes ((cxOf CXg X.prog X.w X.K X.mg X.base Ng qg sg g cdg A2 st2 s2 H2 Eg).tr pn xe) W) (hW : ∀ cls d σ' H', E cls d H' → W cls d σ' H') (hr : Room (k + 1) (A2.deeper (envOfC qg sg s2.heap.objs.size g cdg)))
    (hbody : ∀ (A : Around) (outer : List Env) (s : Shared) (H : Hp), Room k (A.deeper (LamX.lamEnv X scope s.heap.objs.size f c')) → PE (LamX.lamCx X A outer s H E scope f c') body tb)
    (hN : Ng[i]? = some a) (hv : Vis sg a) (hd : (a == ("__debug__" : Str)) = false := by decide) (hcd : (a == ("__classdict__" : Str)) = false := by decide) :
    PE ((cxOf CXg X.prog X.w X.K X.mg X.base Ng qg sg g cdg A2 st2 s2 H2 Eg).tr pn xe) (.Call (.Name a p1) [] [] p2)
      (fun σZ HZ Q => σZ[i]? = some (some (.ref f)) ∧ HZ c' = some (LamX.CodeO c' (X.env.qual ++ "<lambda>")) ∧ tb σ HZ Q) := by
  refine ⟨fun pz sz σz hz Q J ⟨w1, w2, w3⟩ => ?_⟩
  refine wpAny_Call_Name_kw (thn ((pe_var (pos := p1) (i := i) hN hv hd hcd).run pz sz σz hz (fun v G => v = .ref f ∧ G = hz) J ⟨.ref f, w1, rfl, rfl⟩) fun u t ⟨v, G, J1, r1, ev, eG⟩ => ?_)
  subst ev eG
  obtain rfl : u = Value.ref f := r1
  obtain ⟨⟨fo, to⟩, un⟩ := hof _ _ _ _ J1
  refine PySem.W.callWith_F0 ⟨_, _, _, _, fo⟩ ?_
  obtain ⟨⟨oc, vs, tok, y1, y2, y3⟩, _, _⟩ := J1.hok c' _ w2
  have run : codeAny (model X.prog X.w) (A2.deeper (envOfC qg sg s2.heap.objs.size g cdg)) (.call (.ref f) ⟨[], []⟩) (CR (L2.CX X.prog X.w) (envOfC qg sg s2.heap.objs.size g cdg :: st2) X.prog X.w G t Q E) t := by
    refine PySem.W.kla_callFunE hr.depth fo rfl L.co L.gen rfl ⟨c', oc, vs, tok, rfl, y1, y2, y3⟩ (hbind t to _ _ _ _ ?_)
    refine wpAny_newFunctionEnv (fun y hy => (L.own y hy).1) (fun y hy => by rw [List.mem_singleton.mp hy]; exact L.par) (fun g1 hns hsb => ⟨J1.nolimit.fresh _ hsb, (?_ : codeAny _ _ (.expr body (LamX.lamEnv X scope t.heap.objs.size f c')) _ _)⟩) L.kind
    have up : ∀ b o, t.heap.get? b = some o → g1.get? b = some o := fun b o e => hsb.extBut b o (Nat.ne_of_lt (Heap.lt_size e)) (Heap.get?_push_of_some _ e)
    have J2 : Inv (LamX.lamCx X (A2.deeper (envOfC qg sg s2.heap.objs.size g cdg)) (envOfC qg sg s2.heap.objs.size g cdg :: st2) t G E scope f c') [] σ G { t with heap := g1, toks := t.toks + [(ad, va)].length } := lamD_start I L nad J1.env0 hr.hd un hns up
    exact PySem.W.kla_codeExpr (wpAny_mono ((hbody _ _ t G (hr.deeper _)).run [] _ _ G Q J2 w3) (fun v s' ⟨v', H', J', rv, q⟩ => ⟨v', H', J'.os, J'.bare, J'.base, J'.hok, rv, q⟩) fun e s' hq => hq)
  have out : Passes (L2.CX X.prog X.w) ((cxOf CXg X.prog X.w X.K X.mg X.base Ng qg sg g cdg A2 st2 s2 H2 Eg).tr pn xe) E := passes_call tk hW
  refine wpAny_call (codeAny_mono run fun r s' hq => ?_)
  match r, hq with
  | .error e, hq => exact out pz σz G t e s' J1 hq
  | .ok (.ret u), hq => exact J1.after hq
  | .ok .next, hq => exact hq.elim
  | .ok .brk, hq => exact hq.elim
  | .ok .cont, hq => exact hq.elim
end
end DL

/- part -/
set_option Elab.async false
set_option linter.all false
set_option maxRecDepth 100000
set_option maxHeartbeats 1000000
namespace DL
open PySem PySem.Spec PyProof.Rows L2
section
variable {X : Cx}
theorem pe_lamcallD {Tb : List (Addr × Str)} {TT : (XK → Hp → VK → Prop) → Hp → VK → Prop} {x a : Str} {g c P : Addr} {k : Nat} {pg : Arguments} {bg : List Stmt} {sg : Scope} {dV kV doc pm cdv ct oc : Value} {an od : Option Addr} {osl : Array (Option Value)} {Ng : List Str}
    {params : Arguments} {body : Expr} {scope : Scope} {t : XK → TE} {p lpos pos pd : Pos} {nd : Int} {jd : Nat} {ad : Str} (hg : Gl X x) (hm : X.mg x = some (.ref g)) (hk : PySem.W.keepIn X.K (.ref g) = true)
    (lk : X.K.lookup g = some ⟨oc, od, .func (PySem.W.fnOf x x pg bg sg dV kV doc pm an cdv ct), osl⟩) (hcg : PySem.W.codeIn X.K cdv x = true) (hb : L2.Binds X.K (PySem.W.fnOf x x pg bg sg dV kV doc pm an cdv ct) [a] []) (Sg : FnScope Ng [a] sg) (hNg : Ng[0]? = some a) (hva : Vis sg a)
    (hG : LamX.GivesTo X Ng x sg g cdv bg a (X.env.qual ++ "<lambda>") TT)
    (TB : LamX.TabB X.base X.mg c P) (hcode : X.env.code = .ref c) (hmT : (P, X.env.qual ++ "<lambda>") ∈ Tb) (hu : ∀ p ∈ Tb, p.1 = P → p.2 = X.env.qual ++ "<lambda>") (hr : Room (k + 2) X.A) (L : LamD X.env.scope scope ad) (nad : ad ∉ X.N) (hdef : defaultsOf params X.env = ([eval (.Constant (.int nd) jd pd) X.env], [])) (hkw : params.kwonlyargs = [])
    (hbind : ∀ (q : Str) (cl : List (Str × Addr)) (T : Addr) (pm cv ctv : Value) (t : Tok) (sZ : Shared), sZ.heap.get? T = some (tup1 (.int nd t)) → BindsTo sZ (laD_fn q params body scope cl T pm cv ctv) ⟨[], []⟩ [(ad, .int nd t)])
    (hbody : ∀ (A : Around) (outer : List Env) (s : Shared) (H : Hp) (E : XK) (f c' : Addr), Room k (A.deeper (LamX.lamEnv X scope s.heap.objs.size f c')) → PE (LamX.lamCx X A outer s H E scope f c') body (t E))
    (hdb : (x == ("__debug__" : Str)) = false := by decide) (hd : (a == ("__debug__" : Str)) = false := by decide) (hcd : (a == ("__classdict__" : Str)) = false := by decide) :
    PE X (.Call (.Name x p) [.Lambda params body scope lpos] [] pos) (LamX.tLam Tb TT t) := by
  refine ⟨fun pins s σ H Q I ⟨hT, h⟩ => ?_⟩
  refine wpAny_Call_Name_kw (ld_glob I hg hm (PySem.W.callWith_K (h₀ := X.base) I.ok.mod.kin hk (?_ : wpAny _ _ (spliced ((false, eval (.Lambda params body scope lpos) X.env) :: backTo pos (starEach [] X.env))) _ _ s) (by rfl) (by rfl)) hdb)
  refine Calls.spliced_cons (laD_make I TB hcode hmT hu hT hdef hkw (L.has I.ok) fun f c' Td td pm' ctv H1 s' I1 eN T1 ⟨hf, hfn, hfr⟩ ⟨hf2, hfn2, hfr2⟩ hco => Calls.spliced_nil ⟨I1.kIn, ?_⟩)
  have want := h H1 eN T1
  have run : codeAny (model X.prog X.w) X.A (.call (.ref g) ⟨[.ref f], []⟩) (CR C8.CX0 X.stack X.prog X.w H1 s' Q C8.E0) s' := by
    refine LamX.run_ofS (N := Ng) (ps := [a]) (us := [.ref f]) (vs := [.ref f]) lk hcg Sg hr I1.env0 (hb s' [.ref f] I1.kIn rfl) (.cons rfl .nil) rfl fun hr' => ?_
    have act : ∀ (W : WX) (pn : List (Addr × Obj)) (xe : Value → Shared → Prop) (E : XK) (p1 p2 : Pos), Takes ((cxOf C8.CX0 X.prog X.w X.K X.mg X.base Ng x sg g cdv X.A X.stack s' H1 C8.E0).tr pn xe) W → (∀ cls d σ' H', E cls d H' → W cls d σ' H') →
        PE ((cxOf C8.CX0 X.prog X.w X.K X.mg X.base Ng x sg g cdv X.A X.stack s' H1 C8.E0).tr pn xe) (.Call (.Name a p1) [] [] p2) (fun σZ HZ Q => σZ[0]? = some (some (.ref f)) ∧ HZ c' = some (LamX.CodeO c' (X.env.qual ++ "<lambda>")) ∧ t E σ HZ Q) := by
      intro W pn xe E p1 p2 tk hW
      refine pe_actD (T := Td) (va := .int nd td) (X := X) (CXg := C8.CX0) (Eg := C8.E0) (Ng := Ng) (qg := x) (sg := sg) (g := g) (cdg := cdv) (A2 := X.A) (st2 := X.stack) (s2 := s') (H2 := H1) (k := k) (i := 0) (pm := pm') (ctv := ctv) I1 L nad (fun pz' σz' hz' sz' JZ => ?_) (fun sZ hz => hbind _ _ _ _ _ _ _ _ hz) tk hW hr' (fun A outer s H hr3 => hbody A outer s H E f c' hr3) hNg hva hd hcd
      have un : Un (frs X.stack) [] H1 hz' s'.heap sz'.heap := JZ.base
      exact ⟨⟨un.keep f _ hf hfn hfr (by simp), un.keep Td _ hf2 hfn2 hfr2 (by simp)⟩, un⟩
    obtain ⟨t', ht', hq'⟩ := hG f c' s' H1 Q (fun E H' Q' => t E σ H' Q') act hco want
    exact ⟨t', ht'.nox, hq'⟩
  refine wpAny_call (codeAny_mono run fun r s2 hq => ?_)
  match r, hq with
  | .error e, hq => exact hq.elim
  | .ok (.ret u), hq => exact I1.after hq
  | .ok .next, hq => exact hq.elim
  | .ok .brk, hq => exact hq.elim
  | .ok .cont, hq => exact hq.elim
theorem pe_lamfstD {T : List (Addr × Str)} {TT : (XK → Hp → VK → Prop) → Hp → VK → Prop} {x y a a2 : Str} {g g2 c P : Addr} {k : Nat} {pg pg2 : Arguments} {bg2 : List Stmt} {sg sg2 : Scope} {dV kV doc pm cdv ct oc dV2 kV2 doc2 pm2 cdv2 ct2 oc2 : Value} {an od an2 od2 : Option Addr} {osl osl2 : Array (Option Value)} {Ng Ng2 : List Str}
    {params : Arguments} {body : Expr} {scope : Scope} {t : XK → TE} {p lpos pos q1 q2 q3 q4 q5 q6 : Pos} {kz : Nat} {pd : Pos} {nd : Int} {jd : Nat} {ad : Str}
    (hg : Gl X x) (hm : X.mg x = some (.ref g)) (hk : PySem.W.keepIn X.K (.ref g) = true)
    (lk : X.K.lookup g = some ⟨oc, od, .func (PySem.W.fnOf x x pg [.Return (some (.Subscript (.Call (.Name y q1) [.Name a q2] [] q3) (.Constant (.int 0) kz q4) q5)) q6] sg dV kV doc pm an cdv ct), osl⟩) (hcg : PySem.W.codeIn X.K cdv x = true) (hb : L2.Binds X.K (PySem.W.fnOf x x pg [.Return (some (.Subscript (.Call (.Name y q1) [.Name a q2] [] q3) (.Constant (.int 0) kz q4) q5)) q6] sg dV kV doc pm an cdv ct) [a] []) (Sg : FnScope Ng [a] sg) (hNg : Ng[0]? = some a) (hva : Vis sg a)
    (gy : sg.names.lookup y = some .globalImplicit) (hm2 : X.mg y = some (.ref g2)) (hk2 : PySem.W.keepIn X.K (.ref g2) = true)
    (lk2 : X.K.lookup g2 = some ⟨oc2, od2, .func (PySem.W.fnOf y y pg2 bg2 sg2 dV2 kV2 doc2 pm2 an2 cdv2 ct2), osl2⟩) (hcg2 : PySem.W.codeIn X.K cdv2 y = true) (hb2 : L2.Binds X.K (PySem.W.fnOf y y pg2 bg2 sg2 dV2 kV2 doc2 pm2 an2 cdv2 ct2) [a2] []) (Sg2 : FnScope Ng2 [a2] sg2) (hNg2 : Ng2[0]? = some a2) (hva2 : Vis sg2 a2)
    (hG : ∀ (A : Around) (st : List Env) (s : Shared) (H : Hp), Room (k + 2) (A.deeper (envOfC x sg s.heap.objs.size g cdv)) → LamX.GivesTo (cxOf C8.CX0 X.prog X.w X.K X.mg X.base Ng x sg g cdv A st s H C8.E0).nox Ng2 y sg2 g2 cdv2 bg2 a2 (X.env.qual ++ "<lambda>") TT)
    (TB : LamX.TabB X.base X.mg c P) (hcode : X.env.code = .ref c) (hmT : (P, X.env.qual ++ "<lambda>") ∈ T) (hu : ∀ p ∈ T, p.1 = P → p.2 = X.env.qual ++ "<lambda>") (hr : Room (k + 3) X.A) (L : LamD X.env.scope scope ad) (nad : ad ∉ X.N) (hdef : defaultsOf params X.env = ([eval (.Constant (.int nd) jd pd) X.env], [])) (hkw : params.kwonlyargs = [])
    (h0 : ∀ f : Addr, (L2.start Ng [V.ref f])[0]? = some (some (V.ref f))) (hbind : ∀ (q : Str) (cl : List (Str × Addr)) (T : Addr) (pm cv ctv : Value) (t : Tok) (sZ : Shared), sZ.heap.get? T = some (tup1 (.int nd t)) → BindsTo sZ (laD_fn q params body scope cl T pm cv ctv) ⟨[], []⟩ [(ad, .int nd t)])
    (hbody : ∀ (A : Around) (outer : List Env) (s : Shared) (H : Hp) (E : XK) (f c' : Addr), Room k (A.deeper (LamX.lamEnv X scope s.heap.objs.size f c')) → PE (LamX.lamCx X A outer s H E scope f c') body (t E))
    (hdb : (x == ("__debug__" : Str)) = false := by decide) (hdy : (y == ("__debug__" : Str)) = false := by decide) (hd : (a == ("__debug__" : Str)) = false := by decide) (hcd : (a == ("__classdict__" : Str)) = false := by decide) (hd2 : (a2 == ("__debug__" : Str)) = false := by decide) (hcd2 : (a2 == ("__classdict__" : Str)) = false := by decide) :
    PE X (.Call (.Name x p) [.Lambda params body scope lpos] [] pos) (LamX.tLam T (TTfst X.K TT) t) := by
  refine ⟨fun pins s σ H Q I ⟨hT, h⟩ => ?_⟩
  refine wpAny_Call_Name_kw (ld_glob I hg hm (PySem.W.callWith_K (h₀ := X.base) I.ok.mod.kin hk (?_ : wpAny _ _ (spliced ((false, eval (.Lambda params body scope lpos) X.env) :: backTo pos (starEach [] X.env))) _ _ s) (by rfl) (by rfl)) hdb)
  refine Calls.spliced_cons (laD_make I TB hcode hmT hu hT hdef hkw (L.has I.ok) fun f c' Td td pm' ctv H1 s' I1 eN T1 ⟨hf, hfn, hfr⟩ ⟨hf2, hfn2, hfr2⟩ hco => Calls.spliced_nil ⟨I1.kIn, ?_⟩)
  have want := h H1 eN T1
  have run : codeAny (model X.prog X.w) X.A (.call (.ref g) ⟨[.ref f], []⟩) (CR C8.CX0 X.stack X.prog X.w H1 s' Q C8.E0) s' := by
    refine LamX.run_ofS (N := Ng) (ps := [a]) (us := [.ref f]) (vs := [.ref f]) lk hcg Sg hr I1.env0 (hb s' [.ref f] I1.kIn rfl) (.cons rfl .nil) rfl fun hr' => ?_
    have gl : Gl (cxOf C8.CX0 X.prog X.w X.K X.mg X.base Ng x sg g cdv X.A X.stack s' H1 C8.E0).nox y := gy
    have call : PE (cxOf C8.CX0 X.prog X.w X.K X.mg X.base Ng x sg g cdv X.A X.stack s' H1 C8.E0).nox (.Call (.Name y q1) [.Name a q2] [] q3) (fun σZ HZ R => σZ[0]? = some (some (.ref f)) ∧ HZ c' = some (LamX.CodeO c' (X.env.qual ++ "<lambda>")) ∧ TT (fun E H' Q' => t E σ H' Q') HZ R) := by
      refine ⟨fun pz sz σz hz R J ⟨w1, w2, w3⟩ => ?_⟩
      refine wpAny_Call_Name_kw (ld_glob J gl hm2 (PySem.W.callWith_K (h₀ := X.base) J.ok.mod.kin hk2 (?_ : wpAny _ _ (spliced ((false, eval (.Name a q2) _) :: backTo q3 (starEach [] _))) _ _ sz) (by rfl) (by rfl)) hdy)
      refine Calls.spliced_cons (thn ((pe_var (pos := q2) (i := 0) hNg hva hd hcd).run pz sz σz hz (fun v G => v = .ref f ∧ G = hz) J ⟨.ref f, w1, rfl, rfl⟩) fun u s1 ⟨v, G, J1, r1, ev, eG⟩ => Calls.spliced_nil ⟨J1.kIn, ?_⟩)
      subst ev eG
      obtain rfl : u = Value.ref f := r1
      have inner : codeAny (model X.prog X.w) (X.A.deeper (envOfC x sg s'.heap.objs.size g cdv)) (.call (.ref g2) ⟨[.ref f], []⟩) (CR C8.CX0 (envOfC x sg s'.heap.objs.size g cdv :: X.stack) X.prog X.w G s1 R C8.E0) s1 := by
        refine LamX.run_ofS (N := Ng2) (ps := [a2]) (us := [.ref f]) (vs := [.ref f]) lk2 hcg2 Sg2 hr' J1.env0 (hb2 s1 [.ref f] J1.kIn rfl) (.cons rfl .nil) rfl fun hr2 => ?_
        have act : ∀ (W : WX) (pn : List (Addr × Obj)) (xe : Value → Shared → Prop) (E : XK) (p1 p2 : Pos), Takes ((cxOf C8.CX0 X.prog X.w X.K X.mg X.base Ng2 y sg2 g2 cdv2 (X.A.deeper (envOfC x sg s'.heap.objs.size g cdv)) (envOfC x sg s'.heap.objs.size g cdv :: X.stack) s1 G C8.E0).tr pn xe) W → (∀ cls d σ' H', E cls d H' → W cls d σ' H') →
            PE ((cxOf C8.CX0 X.prog X.w X.K X.mg X.base Ng2 y sg2 g2 cdv2 (X.A.deeper (envOfC x sg s'.heap.objs.size g cdv)) (envOfC x sg s'.heap.objs.size g cdv :: X.stack) s1 G C8.E0).tr pn xe) (.Call (.Name a2 p1) [] [] p2) (fun σZ HZ Q => σZ[0]? = some (some (.ref f)) ∧ HZ c' = some (LamX.CodeO c' (X.env.qual ++ "<lambda>")) ∧ t E σ HZ Q) := by
          intro W pn xe E p1 p2 tk hW
          refine pe_actD (T := Td) (va := .int nd td) (X := X) (CXg := C8.CX0) (Eg := C8.E0) (Ng := Ng2) (qg := y) (sg := sg2) (g := g2) (cdg := cdv2) (A2 := X.A.deeper (envOfC x sg s'.heap.objs.size g cdv)) (st2 := envOfC x sg s'.heap.objs.size g cdv :: X.stack) (s2 := s1) (H2 := G) (k := k) (i := 0) (pm := pm') (ctv := ctv) I1 L nad (fun pz' σz' hz' sz' JZ => ?_) (fun sZ hz => hbind _ _ _ _ _ _ _ _ hz) tk hW hr2 (fun A outer s H hr3 => hbody A outer s H E f c' hr3) hNg2 hva2 hd2 hcd2
          have u1 : Un (frs X.stack) [] H1 G s'.heap s1.heap := J1.base
          have u2 : Un (frs (envOfC x sg s'.heap.objs.size g cdv :: X.stack)) [] G hz' s1.heap sz'.heap := JZ.base
          have un := un_comp u1 u2 fun L e => by
            cases e
            exact Nat.le_refl _
          exact ⟨⟨un.keep f _ hf hfn hfr (by simp), un.keep Td _ hf2 hfn2 hfr2 (by simp)⟩, un⟩
        obtain ⟨t', ht', hq'⟩ := hG X.A X.stack s' H1 hr' f c' s1 G R (fun E H' Q' => t E σ H' Q') act w2 w3
        exact ⟨t', ht'.nox, hq'⟩
      refine wpAny_call (codeAny_mono inner fun r s2 hq => ?_)
      match r, hq with
      | .error e, hq => exact hq.elim
      | .ok (.ret u), hq => exact J1.after hq
      | .ok .next, hq => exact hq.elim
      | .ok .brk, hq => exact hq.elim
      | .ok .cont, hq => exact hq.elim
    have st := pss_one (ps_ret (pos := q6) (pe_ix (pos := q5) ix_seq call (pe_int (X := (cxOf C8.CX0 X.prog X.w X.K X.mg X.base Ng x sg g cdv X.A X.stack s' H1 C8.E0).nox) (i := 0) (j := kz) (pos := q4)) (fun _ _ => rfl)))
    exact ⟨_, st.nox, ⟨h0 f, hco, want⟩⟩
  refine wpAny_call (codeAny_mono run fun r s2 hq => ?_)
  match r, hq with
  | .error e, hq => exact hq.elim
  | .ok (.ret u), hq => exact I1.after hq
  | .ok .next, hq => exact hq.elim
  | .ok .brk, hq => exact hq.elim
  | .ok .cont, hq => exact hq.elim
end
section
variable {P : Program} {w : World} {base : Heap} {N : List Str} {sc : Scope} {j : Nat}
variable {M : Mx} {W : WX} {X : Cx} {F H F' H' F1 H1 F2 H2 H0 : Hp} {σ σ1 : L2.St} {ρ ρ1 ρ2 : SE}
theorem de_outD {st stF : Stmt} {ok : Str → Bool} {mF : SE → R RV} {c Pt : Addr} {k : Nat} {mb : DM RV} {params : Arguments} {body : Expr} {scope : Scope} {p lpos pos : Pos} {p1 p2 p3 p4 p5 p6 p7 p8 p9 p10 p11 p12 p13 p14 p15 p16 p17 p18 : Pos} {jj k1 k2 k3 jd : Nat} {pd : Pos} {nd : Int} {ad : Str}
    (C : CxL P w base M N sc j X W c Pt) (O : OutAt M st stF ok mF) (S : OutSc (defScope st)) (g : GlOk sc "_law_outcome") (hj : k + 2 ≤ j) (L : LamD sc scope ad) (nad : ad ∉ N)
    (hb : ∀ (Xl : Cx) (E : XK), CxD P w base M N scope k Xl (fun cls d _ H => E cls d H) → DE Xl M (fun cls d _ H => E cls d H) body mb)
    (hbody : defBody st = [.Try [.Return (some (.Tuple [.Constant (.str "") jj p1, .Call (.Name "_law_ask" p2) [] [] p3] k1 p4)) p5]
      [.ExceptHandler (some (.Tuple [.Name "EarlyError" p6, .Name "UndefinedName" p7, .Name "EmptyHistory" p8] k2 p9)) (some "_law_e") [.Return (some (.Tuple [.Attribute (.Name "_law_e" p10) "tag" p11, .Call (.Name "_law_field" p12) [.Name "_law_e" p13] [] p14] k3 p15)) p16] p17] [] [] p18] := by rfl)
    (hdef : defaultsOf params X.env = ([eval (.Constant (.int nd) jd pd) X.env], []) := by rfl) (hkw : params.kwonlyargs = [] := by rfl)
    (hbind : ∀ (q : Str) (cl : List (Str × Addr)) (T : Addr) (pm cv ctv : Value) (t : Tok) (sZ : Shared), sZ.heap.get? T = some (tup1 (.int nd t)) → BindsTo sZ (laD_fn q params body scope cl T pm cv ctv) ⟨[], []⟩ [(ad, .int nd t)] := by intro q cl T pm cv ctv t sZ hz; exact BindsTo.of_defaults rfl hz rfl rfl rfl) :
    DE X M W (.Call (.Name "_law_outcome" p) [.Lambda params body scope lpos] [] pos) (dOut mF ok mb) := by
  obtain ⟨dO, dF, e1, e2, e3, m1, m2, m3, cau, fq⟩ := O
  obtain ⟨fO, fdO, gO, kO, bO, uO⟩ := dO
  obtain ⟨fF, fdF, gF, kF, bF, uF⟩ := dF
  have CD := C.toCxF.toCxD
  have fq := fq X.prog X.w X.base
  have hP := CD.hP
  have hw := CD.hw
  have hB := CD.hB
  subst hP hw hB
  have hK := CD.hK
  have hM := CD.hM
  have hN := CD.hN
  have hs := CD.hs
  have Q := q_out (W := W) (mb := mb) (mF := mF) cau
  rw [hK] at kO bO uO kF bF uF fq Q
  rw [hM] at gO gF m1 m2 m3 fq
  obtain ⟨oc, od, kV, doc, pm, an, cdv, ct, osl, efd, lk, hcd⟩ := uO.ex
  subst efd
  have hr2 : Room (k + 2) X.A := CD.hr.mono hj
  refine ⟨_, pe_lamcallD (Ng := ["_law_ask", "_law_e"]) (a := "_law_ask") (k := k) (Tb := M.T) (CD.glo g) gO kO lk hcd bO S.Sg rfl S.va ?_ C.tb C.code C.mT C.uT hr2 (by rw [hs]; exact L) (by rw [hN]; exact nad) hdef hkw hbind (t := fun E => canE M (fun cls d _ H' => E cls d H') mb) (fun A outer s H E f c' hr3 => DE.can (hb _ E ?_)) g.nd (by decide) (by decide), Q⟩
  · rw [hbody]
    exact out_gives rfl S.Sg.nd S.Sg.kind S.va S.le (by decide) (by decide) S.g1 S.g2 S.g3 S.g4 (by decide) (by decide) (by decide) (by decide) m1 m2 m3 gF fq kF bF (hr2.mono (by omega))
  · exact ⟨rfl, rfl, rfl, hK, hM, hN, rfl, L.kind, CD.nd, rfl, hr3, takes_of rfl rfl rfl rfl⟩
theorem de_tagD {st stF stT : Stmt} {ok : Str → Bool} {mF : SE → R RV} {c Pt : Addr} {k : Nat} {mb : DM RV} {params : Arguments} {body : Expr} {scope : Scope} {p lpos pos : Pos} {p1 p2 p3 p4 p5 p6 p7 p8 p9 p10 p11 p12 p13 p14 p15 p16 p17 p18 q1 q2 q3 q4 q5 q6 : Pos} {jj k1 k2 k3 kz jd : Nat} {pd : Pos} {nd : Int} {ad : Str}
    (C : CxL P w base M N sc j X W c Pt) (O : OutAt M st stF ok mF) (S : OutSc (defScope st)) (dT : DefAt M "_law_tag" stT ["_law_ask"]) (S2 : TagSc (defScope stT)) (g : GlOk sc "_law_tag") (hj : k + 3 ≤ j) (L : LamD sc scope ad) (nad : ad ∉ N)
    (hb : ∀ (Xl : Cx) (E : XK), CxD P w base M N scope k Xl (fun cls d _ H => E cls d H) → DE Xl M (fun cls d _ H => E cls d H) body mb)
    (hbody : defBody st = [.Try [.Return (some (.Tuple [.Constant (.str "") jj p1, .Call (.Name "_law_ask" p2) [] [] p3] k1 p4)) p5]
      [.ExceptHandler (some (.Tuple [.Name "EarlyError" p6, .Name "UndefinedName" p7, .Name "EmptyHistory" p8] k2 p9)) (some "_law_e") [.Return (some (.Tuple [.Attribute (.Name "_law_e" p10) "tag" p11, .Call (.Name "_law_field" p12) [.Name "_law_e" p13] [] p14] k3 p15)) p16] p17] [] [] p18] := by rfl)
    (hbT : defBody stT = [.Return (some (.Subscript (.Call (.Name "_law_outcome" q1) [.Name "_law_ask" q2] [] q3) (.Constant (.int 0) kz q4) q5)) q6] := by rfl)
    (hdef : defaultsOf params X.env = ([eval (.Constant (.int nd) jd pd) X.env], []) := by rfl) (hkw : params.kwonlyargs = [] := by rfl)
    (hbind : ∀ (q : Str) (cl : List (Str × Addr)) (T : Addr) (pm cv ctv : Value) (t : Tok) (sZ : Shared), sZ.heap.get? T = some (tup1 (.int nd t)) → BindsTo sZ (laD_fn q params body scope cl T pm cv ctv) ⟨[], []⟩ [(ad, .int nd t)] := by intro q cl T pm cv ctv t sZ hz; exact BindsTo.of_defaults rfl hz rfl rfl rfl) :
    DE X M W (.Call (.Name "_law_tag" p) [.Lambda params body scope lpos] [] pos) (dOp2 ixD (dOut mF ok mb) (dC (.int 0))) := by
  obtain ⟨dO, dF, e1, e2, e3, m1, m2, m3, cau, fq⟩ := O
  obtain ⟨fO, fdO, gO, kO, bO, uO⟩ := dO
  obtain ⟨fF, fdF, gF, kF, bF, uF⟩ := dF
  obtain ⟨fT, fdT, gT, kT, bT, uT⟩ := dT
  have CD := C.toCxF.toCxD
  have fq := fq X.prog X.w X.base
  have hP := CD.hP
  have hw := CD.hw
  have hB := CD.hB
  subst hP hw hB
  have hK := CD.hK
  have hM := CD.hM
  have hN := CD.hN
  have hs := CD.hs
  have Q := q_out (W := W) (mb := mb) (mF := mF) cau
  have o2 : Op2 M (rIx M.K) ixD := o2_ix
  rw [hK] at kO bO uO kF bF uF kT bT uT fq Q o2
  rw [hM] at gO gF gT m1 m2 m3 fq
  obtain ⟨oc, od, kV, doc, pm, an, cdv, ct, osl, efd, lk, hcd⟩ := uO.ex
  obtain ⟨oc', od', kV', doc', pm', an', cdv', ct', osl', efd', lk', hcd'⟩ := uT.ex
  subst efd efd'
  rw [hbT] at lk' bT
  have hr2 : Room (k + 3) X.A := CD.hr.mono hj
  refine ⟨_, pe_lamfstD (TT := TTout X.K (spD M 1 mF) [.ref e1, .ref e2, .ref e3]) (Ng := ["_law_ask"]) (Ng2 := ["_law_ask", "_law_e"]) (a := "_law_ask") (a2 := "_law_ask") (k := k) (T := M.T) (CD.glo g) gT kT lk' hcd' bT S2.Sg rfl S2.va S2.g gO kO lk hcd bO S.Sg rfl S.va (fun A2 st2 s2 H2 hr3 => ?_) C.tb C.code C.mT C.uT hr2 (by rw [hs]; exact L) (by rw [hN]; exact nad) hdef hkw (fun f => rfl) hbind (t := fun E => canE M (fun cls d _ H' => E cls d H') mb) (fun A outer s H E f c' hr3 => DE.can (hb _ E ?_)) g.nd, ?_⟩
  · rw [hbody]
    exact out_gives (X := (cxOf C8.CX0 X.prog X.w X.K X.mg X.base ["_law_ask"] "_law_tag" (defScope stT) fT cdv' A2 st2 s2 H2 C8.E0).nox) rfl S.Sg.nd S.Sg.kind S.va S.le (by decide) (by decide) S.g1 S.g2 S.g3 S.g4 (by decide) (by decide) (by decide) (by decide) m1 m2 m3 gF fq kF bF (hr3.mono (by omega))
  · exact ⟨rfl, rfl, rfl, hK, hM, hN, rfl, L.kind, CD.nd, rfl, hr3, takes_of rfl rfl rfl rfl⟩
  · intro σ H F ρ R sm h
    have z := Q σ H F ρ (fun v H' => rIx X.K v (.int 0) H' R) sm (Post.go h fun x ρ1 F1 H1 v _ st1 sm1 ok1 h1 => ?_)
    · exact z
    · have h2 : Post M W σ ρ F H (ofO ((look ρ1 x).bind fun d => ixD d (.int 0)) ρ1) R := h1
      obtain ⟨rv, e, k'⟩ := Post.fin' h2 st1 sm1
      obtain ⟨d, l1, hg⟩ := bind_some1 e
      exact o2 F1 H1 v (.int 0) d (.int 0) rv R sm1.sub (ok1.view0 sm1 l1) (.int 0) hg k'
end
end DL

/- part -/
set_option Elab.async false
set_option linter.all false
set_option maxRecDepth 100000
set_option maxHeartbeats 1000000
namespace DL
open PySem PySem.Spec PyProof.Rows L2
/-! ### a comprehension with a test, reckoned forward -/
section
variable {α : Type} {ρ : SE} {Q : List D → SE → Prop} {E : Exc → SE → Prop} {vs : List Nat} {gm : D → SE → R Unit} {mt : DM Bool} {me : DM RV} {ds : List D}
theorem cLoop_fil (f : D → D) (p : D → Bool) (hn : noOw ρ vs = true) : ∀ (ds acc : List D), (∀ d ∈ ds, cTurn vs gm mt me d ρ = .ok (if p d = true then some (f d) else none) ρ) → acc.length + ds.length ≤ 1000000 → cLoop vs gm mt me ds acc ρ = .ok (acc ++ (ds.filter p).map f) ρ
  | [], acc, _, _ => by simp [cLoop]
  | d :: ds, acc, h, hl => by
    rw [List.length_cons] at hl
    have c : (noOw ρ vs && decide (acc.length < 1000000)) = true := by
      rw [hn, decide_eq_true (by omega)]
      rfl
    unfold cLoop
    rw [if_pos c, h d List.mem_cons_self]
    show cLoop vs gm mt me ds (addO acc _) ρ = _
    by_cases hp : p d = true
    · rw [if_pos hp]
      show cLoop vs gm mt me ds (acc ++ [f d]) ρ = _
      rw [cLoop_fil f p hn ds (acc ++ [f d]) (fun x hx => h x (List.mem_cons_of_mem _ hx)) (by rw [List.length_append, List.length_singleton]; omega), List.filter_cons_of_pos hp]
      simp
    · rw [if_neg hp]
      show cLoop vs gm mt me ds acc ρ = _
      rw [cLoop_fil f p hn ds acc (fun x hx => h x (List.mem_cons_of_mem _ hx)) (by omega), List.filter_cons_of_neg hp]
theorem wp_cfil (f : D → D) (p : D → Bool) (hn : noOw ρ vs = true) (hz : ds.length ≤ 1000000) (h : ∀ d ∈ ds, WP (cTurn vs gm mt me d ρ) (fun o ρ1 => o = (if p d = true then some (f d) else none) ∧ ρ1 = ρ) noX) (k : ∀ ys, ys = (ds.filter p).map f → Q ys ρ) : WP (cLoop vs gm mt me ds [] ρ) Q E := by
  have e := cLoop_fil (gm := gm) (mt := mt) (me := me) f p hn ds [] (fun d hd => Wp.eq (h d hd)) (by simpa using hz)
  exact .of e (k _ (by simp))
end
end DL

/- part -/
set_option Elab.async false
set_option linter.all false
set_option maxRecDepth 100000
set_option maxHeartbeats 4000000
namespace Kx
noncomputable section
open PySem PySem.Spec PyProof.Rows L2 DL
def topS (i : Nat) : Stmt := PySem.Challenge.pw_earlywrite_k05_rows_of_numbers.main.body.getD i (.Pass ⟨0, 0, 0, 0⟩)
abbrev c_MAX_DIGITS : D := .int 24
abbrev c_MAX_DIGIT : D := .int 99
abbrev c_MAX_BASE : D := .int 10
abbrev c_MAX_ROW : D := .int 200
def okE (c : Str) : Bool := (decide (c = "InvalidBase") || (decide (c = "InvalidDigits") || (decide (c = "OutOfRange") || false)))
structure Tx (M : Mx) (w : World) where
  z_len : M.mg "len" = none
  z_list : M.mg "list" = none
  z_sorted : M.mg "sorted" = none
  z_set : M.mg "set" = none
  z_abs : M.mg "abs" = none
  z_all : M.mg "all" = none
  z_range : M.mg "range" = none
  z_max : M.mg "max" = none
  z_min : M.mg "min" = none
  z_zip : M.mg "zip" = none
  z_tuple : M.mg "tuple" = none
  z_isinstance : M.mg "isinstance" = none
  z_bool : M.mg "bool" = none
  z_int : M.mg "int" = none
  z_str : M.mg "str" = none
  k_MAX_DIGITS : KCon M "MAX_DIGITS" c_MAX_DIGITS
  k_MAX_DIGIT : KCon M "MAX_DIGIT" c_MAX_DIGIT
  k_MAX_BASE : KCon M "MAX_BASE" c_MAX_BASE
  k_MAX_ROW : KCon M "MAX_ROW" c_MAX_ROW
  x_InvalidBase : ExcAt M "InvalidBase" ["self"] fun _ => [("tag", .str "InvalidBase")]
  x_InvalidDigits : ExcAt M "InvalidDigits" ["self"] fun _ => [("tag", .str "InvalidDigits")]
  x_OutOfRange : ExcAt M "OutOfRange" ["self"] fun _ => [("tag", .str "OutOfRange")]
  c_DigitSet : ClsAt M "DigitSet" ["base", "digits"]
abbrev s__law_begin : Stmt := topS 25
abbrev n__law_begin : List Str := ["_law_script", "_law_seed", "_law_cell"]
theorem sc__law_begin : FnScope n__law_begin ["_law_script"] (defScope s__law_begin) := ⟨rfl, rfl, rfl, by decide +kernel, rfl, by decide +kernel, by decide +kernel⟩
structure V__law_begin : Prop where
  _law_script : NameOk (defScope s__law_begin) "_law_script"
  _law_seed : NameOk (defScope s__law_begin) "_law_seed"
  _law_cell : NameOk (defScope s__law_begin) "_law_cell"
theorem v__law_begin : V__law_begin := ⟨⟨by unfold Vis; decide +kernel, by decide +kernel, by decide +kernel⟩, ⟨by unfold Vis; decide +kernel, by decide +kernel, by decide +kernel⟩, ⟨by unfold Vis; decide +kernel, by decide +kernel, by decide +kernel⟩⟩
structure L__law_begin : Prop where
  _law_seed : L2.Loc (defScope s__law_begin) "_law_seed"
  _law_cell : L2.Loc (defScope s__law_begin) "_law_cell"
theorem l__law_begin : L__law_begin := ⟨by unfold L2.Loc; decide +kernel, by unfold L2.Loc; decide +kernel⟩
structure G__law_begin : Prop where
  len : GlOk (defScope s__law_begin) "len"
  list : GlOk (defScope s__law_begin) "list"
theorem g__law_begin : G__law_begin := ⟨⟨by decide +kernel, by decide +kernel, by decide +kernel⟩, ⟨by decide +kernel, by decide +kernel, by decide +kernel⟩⟩
def b__law_begin : DM Fl := sSeq (sSet 1 (dOp2 addD (dC (.int 9491)) (dCb gLen (vCons (dSl (dVar 0) (oNone) (oSome (dC (.int 63)))) (vNil))))) (sSeq (sFor (iSeq (dSl (dVar 0) (oNone) (oSome (dC (.int 63))))) (tgName 2) (sSet 1 (dOp2 modD (dOp2 addD (dOp2 addD (dOp2 mulD (dVar 1) (dC (.int 40009))) (dOp2 modD (dVar 2) (dC (.int 2147483549)))) (dC (.int 31))) (dC (.int 2147483549))))) (sRet (dLst (aCons (dCb gList (vCons (dSl (dVar 0) (oNone) (oSome (dC (.int 63)))) (vNil))) (aCons (dC (.int 0)) (aCons (dC (.int 0)) (aCons (dVar 1) (aNil))))))))
def m__law_begin : SE → R RV := mFn n__law_begin.length b__law_begin
theorem d__law_begin {P : Program} {w : World} {base : Heap} {M : Mx} (T : Tx M w)  {X : Cx} {W : DL.WX} (C : CxF P w base M n__law_begin (defScope s__law_begin) 0 X W) : DSs X M W (defBody s__law_begin) b__law_begin :=
  (dss_cons (ds_v C.toCxD 1 (C.st l__law_begin._law_seed) (de_add de_int (de_lenF C.toCxD g__law_begin.len T.z_len (dv_cons (de_sl (de_v C.toCxD 0 v__law_begin._law_script) do_none (do_some de_int) C.toCxD.hK) dv_nil)) C.toCxD.hK)) (dss_cons (ds_for C.ps C.cm (di_seq (de_sl (de_v C.toCxD 0 v__law_begin._law_script) do_none (do_some de_int) C.toCxD.hK) C.toCxD.hK) (dg_v C.toCxD 2 (C.st l__law_begin._law_cell)) (dss_one (ds_v C.toCxD 1 (C.st l__law_begin._law_seed) (de_mod (de_add (de_add (de_mul (de_v C.toCxD 1 v__law_begin._law_seed) de_int) (de_mod (de_v C.toCxD 2 v__law_begin._law_cell) de_int) C.toCxD.hK) de_int C.toCxD.hK) de_int)))) (dss_one (ds_ret (de_lst (da_cons (de_listF C.toCxD g__law_begin.list T.z_list (dv_cons (de_sl (de_v C.toCxD 0 v__law_begin._law_script) do_none (do_some de_int) C.toCxD.hK) dv_nil)) (da_cons de_int (da_cons de_int (da_cons (de_v C.toCxD 1 v__law_begin._law_seed) da_nil)))))))))
theorem ok__law_begin {P : Program} {w : World} {base : Heap} {M : Mx} (T : Tx M w) (Dx : DefAt M "_law_begin" s__law_begin ["_law_script"])  : FnOk P w M.K M.mg base (L2.CX P w) 1 Dx.f Dx.fd ["_law_script"] (spD M 1 m__law_begin) := by
  have h : ∀ (cdv : Value) (A : Around) (outer : List Env) (s : Shared) (H : Hp) (E : XK), Room 0 (A.deeper (envOfC "_law_begin" (defScope s__law_begin) s.heap.objs.size Dx.f cdv)) → DSs (cxOf (L2.CX P w) P w M.K M.mg base n__law_begin "_law_begin" (defScope s__law_begin) Dx.f cdv A outer s H E) M (fun cls d _ H' => E cls d H') (defBody s__law_begin) b__law_begin := fun cdv A outer s H E hr => d__law_begin T  (cxF_of sc__law_begin hr)
  exact fn_D Dx.fu sc__law_begin h
def cal__law_begin {P : Program} {w : World} {base : Heap} {M : Mx} (T : Tx M w) (Dx : DefAt M "_law_begin" s__law_begin ["_law_script"])  : Cal P w base M "_law_begin" 1 1 m__law_begin := Dx.cal (ok__law_begin (P := P) (base := base) T Dx )
abbrev s__law_draw : Stmt := topS 26
abbrev n__law_draw : List Str := ["_law_rng", "_law_many", "_law_cell", "_law_got", "_law_seed"]
theorem sc__law_draw : FnScope n__law_draw ["_law_rng", "_law_many"] (defScope s__law_draw) := ⟨rfl, rfl, rfl, by decide +kernel, rfl, by decide +kernel, by decide +kernel⟩
structure V__law_draw : Prop where
  _law_rng : NameOk (defScope s__law_draw) "_law_rng"
  _law_cell : NameOk (defScope s__law_draw) "_law_cell"
  _law_many : NameOk (defScope s__law_draw) "_law_many"
  _law_got : NameOk (defScope s__law_draw) "_law_got"
  _law_seed : NameOk (defScope s__law_draw) "_law_seed"
theorem v__law_draw : V__law_draw := ⟨⟨by unfold Vis; decide +kernel, by decide +kernel, by decide +kernel⟩, ⟨by unfold Vis; decide +kernel, by decide +kernel, by decide +kernel⟩, ⟨by unfold Vis; decide +kernel, by decide +kernel, by decide +kernel⟩, ⟨by unfold Vis; decide +kernel, by decide +kernel, by decide +kernel⟩, ⟨by unfold Vis; decide +kernel, by decide +kernel, by decide +kernel⟩⟩
structure L__law_draw : Prop where
  _law_cell : L2.Loc (defScope s__law_draw) "_law_cell"
  _law_got : L2.Loc (defScope s__law_draw) "_law_got"
  _law_seed : L2.Loc (defScope s__law_draw) "_law_seed"
theorem l__law_draw : L__law_draw := ⟨by unfold L2.Loc; decide +kernel, by unfold L2.Loc; decide +kernel, by unfold L2.Loc; decide +kernel⟩
structure G__law_draw : Prop where
  len : GlOk (defScope s__law_draw) "len"
theorem g__law_draw : G__law_draw := ⟨⟨by decide +kernel, by decide +kernel, by decide +kernel⟩⟩
def b__law_draw : DM Fl := sSeq (sIf (dAndT (fun ρ => (dOp2 eqD (dOp2 ixD (dVar 0) (dC (.int 2))) (dC (.int 0)) ρ).bind asB) (fun ρ => (dOp2 ltD (dOp2 ixD (dVar 0) (dC (.int 1))) (dCb gLen (vCons (dOp2 ixD (dVar 0) (dC (.int 0))) (vNil))) ρ).bind asB)) (sSeq (sSet 2 (dOp2 ixD (dOp2 ixD (dVar 0) (dC (.int 0))) (dOp2 ixD (dVar 0) (dC (.int 1))))) (sSeq (sSub 0 (dC (.int 1)) (dOp2 addD (dOp2 ixD (dVar 0) (dC (.int 1))) (dC (.int 1)))) (sIf (fun ρ => (dOp2 geD (dVar 2) (dOp2 powD (dC (.int 10)) (dC (.int 18))) ρ).bind asB) (sSub 0 (dC (.int 2)) (dVar 2)) (sSub 0 (dC (.int 3)) (dOp2 modD (dOp2 addD (dOp2 addD (dOp2 mulD (dOp2 ixD (dVar 0) (dC (.int 3))) (dC (.int 44111))) (dOp2 mulD (dOp2 modD (dVar 2) (dC (.int 2147483549))) (dC (.int 70001)))) (dC (.int 13))) (dC (.int 2147483549))))))) (sPass)) (sSeq (sIf (fun ρ => (dOp2 gtD (dOp2 ixD (dVar 0) (dC (.int 2))) (dC (.int 0)) ρ).bind asB) (sSeq (sSet 3 (dOp2 modD (dOp2 ixD (dVar 0) (dC (.int 2))) (dVar 1))) (sSeq (sSub 0 (dC (.int 2)) (dOp2 fdivD (dOp2 ixD (dVar 0) (dC (.int 2))) (dVar 1))) (sRet (dVar 3)))) (sPass)) (sSeq (sSet 4 (dOp2 ixD (dVar 0) (dC (.int 3)))) (sSeq (sSub 0 (dC (.int 3)) (dOp2 modD (dOp2 addD (dOp2 addD (dOp2 mulD (dVar 4) (dOp2 addD (dOp2 modD (dVar 4) (dC (.int 65479))) (dC (.int 11)))) (dOp2 mulD (dVar 4) (dC (.int 40699)))) (dC (.int 70067))) (dC (.int 2147483549)))) (sRet (dOp2 modD (dOp2 addD (dOp2 fdivD (dOp2 ixD (dVar 0) (dC (.int 3))) (dC (.int 67))) (dOp2 mulD (dOp2 modD (dOp2 ixD (dVar 0) (dC (.int 3))) (dC (.int 7919))) (dC (.int 211)))) (dVar 1))))))
def m__law_draw : SE → R RV := mFn n__law_draw.length b__law_draw
theorem d__law_draw {P : Program} {w : World} {base : Heap} {M : Mx} (T : Tx M w)  {X : Cx} {W : DL.WX} (C : CxF P w base M n__law_draw (defScope s__law_draw) 0 X W) : DSs X M W (defBody s__law_draw) b__law_draw :=
  (dss_cons (ds_if (dt_w (dw_and (dt_eq (de_ix (de_v C.toCxD 0 v__law_draw._law_rng) de_int (fun _ _ => rfl) C.toCxD.hK) de_int C.toCxD.u64 C.toCxD.hK) (dw_and1 (dt_lt (de_ix (de_v C.toCxD 0 v__law_draw._law_rng) de_int (fun _ _ => rfl) C.toCxD.hK) (de_lenF C.toCxD g__law_draw.len T.z_len (dv_cons (de_ix (de_v C.toCxD 0 v__law_draw._law_rng) de_int (fun _ _ => rfl) C.toCxD.hK) dv_nil)))))) (dss_cons (ds_v C.toCxD 2 (C.st l__law_draw._law_cell) (de_ix (de_ix (de_v C.toCxD 0 v__law_draw._law_rng) de_int (fun _ _ => rfl) C.toCxD.hK) (de_ix (de_v C.toCxD 0 v__law_draw._law_rng) de_int (fun _ _ => rfl) C.toCxD.hK) (fun _ _ => rfl) C.toCxD.hK)) (dss_cons (ds_ixv C.toCxD 0 v__law_draw._law_rng (de_add (de_ix (de_v C.toCxD 0 v__law_draw._law_rng) de_int (fun _ _ => rfl) C.toCxD.hK) de_int C.toCxD.hK) de_int) (dss_one (ds_if (dt_ge (de_v C.toCxD 2 v__law_draw._law_cell) (de_pow de_int de_int)) (dss_one (ds_ixv C.toCxD 0 v__law_draw._law_rng (de_v C.toCxD 2 v__law_draw._law_cell) de_int)) (dss_one (ds_ixv C.toCxD 0 v__law_draw._law_rng (de_mod (de_add (de_add (de_mul (de_ix (de_v C.toCxD 0 v__law_draw._law_rng) de_int (fun _ _ => rfl) C.toCxD.hK) de_int) (de_mul (de_mod (de_v C.toCxD 2 v__law_draw._law_cell) de_int) de_int) C.toCxD.hK) de_int C.toCxD.hK) de_int) de_int)))))) dss_nil) (dss_cons (ds_if (dt_gt (de_ix (de_v C.toCxD 0 v__law_draw._law_rng) de_int (fun _ _ => rfl) C.toCxD.hK) de_int) (dss_cons (ds_v C.toCxD 3 (C.st l__law_draw._law_got) (de_mod (de_ix (de_v C.toCxD 0 v__law_draw._law_rng) de_int (fun _ _ => rfl) C.toCxD.hK) (de_v C.toCxD 1 v__law_draw._law_many))) (dss_cons (ds_ixv C.toCxD 0 v__law_draw._law_rng (de_fdiv (de_ix (de_v C.toCxD 0 v__law_draw._law_rng) de_int (fun _ _ => rfl) C.toCxD.hK) (de_v C.toCxD 1 v__law_draw._law_many)) de_int) (dss_one (ds_ret (de_v C.toCxD 3 v__law_draw._law_got))))) dss_nil) (dss_cons (ds_v C.toCxD 4 (C.st l__law_draw._law_seed) (de_ix (de_v C.toCxD 0 v__law_draw._law_rng) de_int (fun _ _ => rfl) C.toCxD.hK)) (dss_cons (ds_ixv C.toCxD 0 v__law_draw._law_rng (de_mod (de_add (de_add (de_mul (de_v C.toCxD 4 v__law_draw._law_seed) (de_add (de_mod (de_v C.toCxD 4 v__law_draw._law_seed) de_int) de_int C.toCxD.hK)) (de_mul (de_v C.toCxD 4 v__law_draw._law_seed) de_int) C.toCxD.hK) de_int C.toCxD.hK) de_int) de_int) (dss_one (ds_ret (de_mod (de_add (de_fdiv (de_ix (de_v C.toCxD 0 v__law_draw._law_rng) de_int (fun _ _ => rfl) C.toCxD.hK) de_int) (de_mul (de_mod (de_ix (de_v C.toCxD 0 v__law_draw._law_rng) de_int (fun _ _ => rfl) C.toCxD.hK) de_int) de_int) C.toCxD.hK) (de_v C.toCxD 1 v__law_draw._law_many))))))))
theorem ok__law_draw {P : Program} {w : World} {base : Heap} {M : Mx} (T : Tx M w) (Dx : DefAt M "_law_draw" s__law_draw ["_law_rng", "_law_many"])  : FnOk P w M.K M.mg base (L2.CX P w) 1 Dx.f Dx.fd ["_law_rng", "_law_many"] (spD M 2 m__law_draw) := by
  have h : ∀ (cdv : Value) (A : Around) (outer : List Env) (s : Shared) (H : Hp) (E : XK), Room 0 (A.deeper (envOfC "_law_draw" (defScope s__law_draw) s.heap.objs.size Dx.f cdv)) → DSs (cxOf (L2.CX P w) P w M.K M.mg base n__law_draw "_law_draw" (defScope s__law_draw) Dx.f cdv A outer s H E) M (fun cls d _ H' => E cls d H') (defBody s__law_draw) b__law_draw := fun cdv A outer s H E hr => d__law_draw T  (cxF_of sc__law_draw hr)
  exact fn_D Dx.fu sc__law_draw h
def cal__law_draw {P : Program} {w : World} {base : Heap} {M : Mx} (T : Tx M w) (Dx : DefAt M "_law_draw" s__law_draw ["_law_rng", "_law_many"])  : Cal P w base M "_law_draw" 1 2 m__law_draw := Dx.cal (ok__law_draw (P := P) (base := base) T Dx )
abbrev s__law_pick : Stmt := topS 27
abbrev n__law_pick : List Str := ["_law_rng", "_law_items"]
theorem sc__law_pick : FnScope n__law_pick ["_law_rng", "_law_items"] (defScope s__law_pick) := ⟨rfl, rfl, rfl, by decide +kernel, rfl, by decide +kernel, by decide +kernel⟩
structure V__law_pick : Prop where
  _law_items : NameOk (defScope s__law_pick) "_law_items"
  _law_rng : NameOk (defScope s__law_pick) "_law_rng"
theorem v__law_pick : V__law_pick := ⟨⟨by unfold Vis; decide +kernel, by decide +kernel, by decide +kernel⟩, ⟨by unfold Vis; decide +kernel, by decide +kernel, by decide +kernel⟩⟩
structure G__law_pick : Prop where
  len : GlOk (defScope s__law_pick) "len"
  _law_draw : GlOk (defScope s__law_pick) "_law_draw"
theorem g__law_pick : G__law_pick := ⟨⟨by decide +kernel, by decide +kernel, by decide +kernel⟩, ⟨by decide +kernel, by decide +kernel, by decide +kernel⟩⟩
def b__law_pick : DM Fl := sRet (dOp2 ixD (dVar 1) (dCall 2 [] m__law_draw (aIo 0 (aCons (dCb gLen (vCons (dVar 1) (vNil))) (aNil)))))
def m__law_pick : SE → R RV := mFn n__law_pick.length b__law_pick
theorem d__law_pick {P : Program} {w : World} {base : Heap} {M : Mx} (T : Tx M w) (C__law_draw : Cal P w base M "_law_draw" 1 2 m__law_draw) {X : Cx} {W : DL.WX} (C : CxF P w base M n__law_pick (defScope s__law_pick) 1 X W) : DSs X M W (defBody s__law_pick) b__law_pick :=
  (dss_one (ds_ret (de_ix (de_v C.toCxD 1 v__law_pick._law_items) (de_callC C.toCxD C__law_draw g__law_pick._law_draw (by decide) (da_v C.toCxD 0 v__law_pick._law_rng (da_cons (de_lenF C.toCxD g__law_pick.len T.z_len (dv_cons (de_v C.toCxD 1 v__law_pick._law_items) dv_nil)) da_nil))) (fun _ _ => rfl) C.toCxD.hK)))
theorem ok__law_pick {P : Program} {w : World} {base : Heap} {M : Mx} (T : Tx M w) (Dx : DefAt M "_law_pick" s__law_pick ["_law_rng", "_law_items"]) (C__law_draw : Cal P w base M "_law_draw" 1 2 m__law_draw) : FnOk P w M.K M.mg base (L2.CX P w) 2 Dx.f Dx.fd ["_law_rng", "_law_items"] (spD M 2 m__law_pick) := by
  have h : ∀ (cdv : Value) (A : Around) (outer : List Env) (s : Shared) (H : Hp) (E : XK), Room 1 (A.deeper (envOfC "_law_pick" (defScope s__law_pick) s.heap.objs.size Dx.f cdv)) → DSs (cxOf (L2.CX P w) P w M.K M.mg base n__law_pick "_law_pick" (defScope s__law_pick) Dx.f cdv A outer s H E) M (fun cls d _ H' => E cls d H') (defBody s__law_pick) b__law_pick := fun cdv A outer s H E hr => d__law_pick T C__law_draw (cxF_of sc__law_pick hr)
  exact fn_D Dx.fu sc__law_pick h
def cal__law_pick {P : Program} {w : World} {base : Heap} {M : Mx} (T : Tx M w) (Dx : DefAt M "_law_pick" s__law_pick ["_law_rng", "_law_items"]) (C__law_draw : Cal P w base M "_law_draw" 1 2 m__law_draw) : Cal P w base M "_law_pick" 2 2 m__law_pick := Dx.cal (ok__law_pick (P := P) (base := base) T Dx C__law_draw)
abbrev s__law_are_digits : Stmt := topS 39
abbrev n__law_are_digits : List Str := ["_law_base", "_law_digits_here", "_law_line", "_law_k"]
theorem sc__law_are_digits : FnScope n__law_are_digits ["_law_base", "_law_digits_here"] (defScope s__law_are_digits) := ⟨rfl, rfl, rfl, by decide +kernel, rfl, by decide +kernel, by decide +kernel⟩
structure V__law_are_digits : Prop where
  _law_digits_here : NameOk (defScope s__law_are_digits) "_law_digits_here"
  _law_line : NameOk (defScope s__law_are_digits) "_law_line"
theorem v__law_are_digits : V__law_are_digits := ⟨⟨by unfold Vis; decide +kernel, by decide +kernel, by decide +kernel⟩, ⟨by unfold Vis; decide +kernel, by decide +kernel, by decide +kernel⟩⟩
structure L__law_are_digits : Prop where
  _law_line : L2.Loc (defScope s__law_are_digits) "_law_line"
theorem l__law_are_digits : L__law_are_digits := ⟨by unfold L2.Loc; decide +kernel⟩
structure G__law_are_digits : Prop where
  sorted : GlOk (defScope s__law_are_digits) "sorted"
  len : GlOk (defScope s__law_are_digits) "len"
  set : GlOk (defScope s__law_are_digits) "set"
  abs : GlOk (defScope s__law_are_digits) "abs"
  range : GlOk (defScope s__law_are_digits) "range"
  all : GlOk (defScope s__law_are_digits) "all"
theorem g__law_are_digits : G__law_are_digits := ⟨⟨by decide +kernel, by decide +kernel, by decide +kernel⟩, ⟨by decide +kernel, by decide +kernel, by decide +kernel⟩, ⟨by decide +kernel, by decide +kernel, by decide +kernel⟩, ⟨by decide +kernel, by decide +kernel, by decide +kernel⟩, ⟨by decide +kernel, by decide +kernel, by decide +kernel⟩, ⟨by decide +kernel, by decide +kernel, by decide +kernel⟩⟩
def b__law_are_digits : DM Fl := sSeq (sSet 2 (dCb gSorted (vCons (dVar 1) (vNil)))) (sSeq (sIf (dOrT (dNotT (fun ρ => (dChain leD leD (dC (.int 2)) (dCb gLen (vCons (dVar 2) (vNil))) (dC (.int 24)) ρ).bind asB)) (fun ρ => (dOp2 neD (dOp1 lenSetD (dVar 2)) (dCb gLen (vCons (dVar 2) (vNil))) ρ).bind asB)) (sRet (dC (.bl false))) (sPass)) (sSeq (sIf (dOrT (fun ρ => (dOp2 gtD (dCb gAbs (vCons (dOp2 ixD (dVar 2) (dC (.int 0))) (vNil))) (dC (.int 99)) ρ).bind asB) (fun ρ => (dOp2 gtD (dCb gAbs (vCons (dOp2 ixD (dVar 2) (dOp1 negD (dC (.int 1)))) (vNil))) (dC (.int 99)) ρ).bind asB)) (sRet (dC (.bl false))) (sPass)) (sRet (dCb gAll (vCons (dLc [3] (iRange1 (vCons (dOp2 subD (dCb gLen (vCons (dVar 2) (vNil))) (dC (.int 1))) (vNil))) (tgName 3) (tYesD) (dOp2 leD (dOp2 mulD (dOp2 subD (dOp2 ixD (dVar 2) (dOp2 addD (dVar 3) (dC (.int 1)))) (dOp2 ixD (dVar 2) (dVar 3))) (dOp2 subD (dVar 0) (dC (.int 1)))) (dOp2 subD (dOp2 ixD (dVar 2) (dOp1 negD (dC (.int 1)))) (dOp2 ixD (dVar 2) (dC (.int 0)))))) (vNil))))))
def m__law_are_digits : SE → R RV := mFn n__law_are_digits.length b__law_are_digits
theorem d__law_are_digits {P : Program} {w : World} {base : Heap} {M : Mx} (T : Tx M w)  {X : Cx} {W : DL.WX} (C : CxF P w base M n__law_are_digits (defScope s__law_are_digits) 0 X W) : DSs X M W (defBody s__law_are_digits) b__law_are_digits :=
  (dss_cons (ds_v C.toCxD 2 (C.st l__law_are_digits._law_line) (de_sortedF C.toCxD g__law_are_digits.sorted T.z_sorted (dv_cons (de_v C.toCxD 1 v__law_are_digits._law_digits_here) dv_nil))) (dss_cons (ds_if (dt_w (dw_or (dt_not (dt_chain op_le op_le o2_le o2_le de_int (de_lenF C.toCxD g__law_are_digits.len T.z_len (dv_cons (de_v C.toCxD 2 v__law_are_digits._law_line) dv_nil)) de_int)) (dw_or1 (dt_ne (de_lenSetF C.toCxD g__law_are_digits.len T.z_len g__law_are_digits.set T.z_set (de_v C.toCxD 2 v__law_are_digits._law_line)) (de_lenF C.toCxD g__law_are_digits.len T.z_len (dv_cons (de_v C.toCxD 2 v__law_are_digits._law_line) dv_nil)) C.toCxD.u64 C.toCxD.hK)))) (dss_one (ds_ret de_bl)) dss_nil) (dss_cons (ds_if (dt_w (dw_or (dt_gt (de_absF C.toCxD g__law_are_digits.abs T.z_abs (dv_cons (de_ix (de_v C.toCxD 2 v__law_are_digits._law_line) de_int (fun _ _ => rfl) C.toCxD.hK) dv_nil)) de_int) (dw_or1 (dt_gt (de_absF C.toCxD g__law_are_digits.abs T.z_abs (dv_cons (de_ix (de_v C.toCxD 2 v__law_are_digits._law_line) (de_neg de_int) (fun _ _ => rfl) C.toCxD.hK) dv_nil)) de_int)))) (dss_one (ds_ret de_bl)) dss_nil) (dss_one (ds_ret (de_allF C.toCxD g__law_are_digits.all T.z_all (dv_cons (de_lcF C.toCxD [("_law_k", 3)] (blkOk_by (by decide +kernel)) tgName_ex (di_range1F C.toCxD g__law_are_digits.range T.z_range (dv_cons (de_sub (de_lenF C.toCxD g__law_are_digits.len T.z_len (dv_cons (de_v C.toCxD 2 v__law_are_digits._law_line) dv_nil)) de_int) dv_nil)) (fun _ _ _ _ _ => (dg_v (C.toCxD.blk rfl _ _ _ _ _) 3 ((C.toCxD.blk rfl _ _ _ _ _).stl (by decide +kernel)))) (fun _ _ _ _ _ => dts_nil) (fun _ _ _ _ _ => (de_le (de_mul (de_sub (de_ix (de_v (C.toCxD.blk rfl _ _ _ _ _) 2 ⟨by unfold Vis; decide +kernel, by decide +kernel, by decide +kernel⟩) (de_add (de_v (C.toCxD.blk rfl _ _ _ _ _) 3 ⟨by unfold Vis; decide +kernel, by decide +kernel, by decide +kernel⟩) de_int (C.toCxD.blk rfl _ _ _ _ _).hK) (fun _ _ => rfl) (C.toCxD.blk rfl _ _ _ _ _).hK) (de_ix (de_v (C.toCxD.blk rfl _ _ _ _ _) 2 ⟨by unfold Vis; decide +kernel, by decide +kernel, by decide +kernel⟩) (de_v (C.toCxD.blk rfl _ _ _ _ _) 3 ⟨by unfold Vis; decide +kernel, by decide +kernel, by decide +kernel⟩) (fun _ _ => rfl) (C.toCxD.blk rfl _ _ _ _ _).hK)) (de_sub (de_v (C.toCxD.blk rfl _ _ _ _ _) 0 ⟨by unfold Vis; decide +kernel, by decide +kernel, by decide +kernel⟩) de_int)) (de_sub (de_ix (de_v (C.toCxD.blk rfl _ _ _ _ _) 2 ⟨by unfold Vis; decide +kernel, by decide +kernel, by decide +kernel⟩) (de_neg de_int) (fun _ _ => rfl) (C.toCxD.blk rfl _ _ _ _ _).hK) (de_ix (de_v (C.toCxD.blk rfl _ _ _ _ _) 2 ⟨by unfold Vis; decide +kernel, by decide +kernel, by decide +kernel⟩) de_int (fun _ _ => rfl) (C.toCxD.blk rfl _ _ _ _ _).hK))))) dv_nil)))))))
theorem ok__law_are_digits {P : Program} {w : World} {base : Heap} {M : Mx} (T : Tx M w) (Dx : DefAt M "_law_are_digits" s__law_are_digits ["_law_base", "_law_digits_here"])  : FnOk P w M.K M.mg base (L2.CX P w) 1 Dx.f Dx.fd ["_law_base", "_law_digits_here"] (spD M 2 m__law_are_digits) := by
  have h : ∀ (cdv : Value) (A : Around) (outer : List Env) (s : Shared) (H : Hp) (E : XK), Room 0 (A.deeper (envOfC "_law_are_digits" (defScope s__law_are_digits) s.heap.objs.size Dx.f cdv)) → DSs (cxOf (L2.CX P w) P w M.K M.mg base n__law_are_digits "_law_are_digits" (defScope s__law_are_digits) Dx.f cdv A outer s H E) M (fun cls d _ H' => E cls d H') (defBody s__law_are_digits) b__law_are_digits := fun cdv A outer s H E hr => d__law_are_digits T  (cxF_of sc__law_are_digits hr)
  exact fn_D Dx.fu sc__law_are_digits h
def cal__law_are_digits {P : Program} {w : World} {base : Heap} {M : Mx} (T : Tx M w) (Dx : DefAt M "_law_are_digits" s__law_are_digits ["_law_base", "_law_digits_here"])  : Cal P w base M "_law_are_digits" 1 2 m__law_are_digits := Dx.cal (ok__law_are_digits (P := P) (base := base) T Dx )
abbrev s__law_digits : Stmt := topS 40
abbrev n__law_digits : List Str := ["_law_rng", "_law_base", "_law_most", "_law_many", "_law_front", "_law_line", "_law_turn", "_law_fewer", "_law_unit", "_law_digit"]
theorem sc__law_digits : FnScope n__law_digits ["_law_rng", "_law_base", "_law_most"] (defScope s__law_digits) := ⟨rfl, rfl, rfl, by decide +kernel, rfl, by decide +kernel, by decide +kernel⟩
structure V__law_digits : Prop where
  _law_base : NameOk (defScope s__law_digits) "_law_base"
  _law_most : NameOk (defScope s__law_digits) "_law_most"
  _law_rng : NameOk (defScope s__law_digits) "_law_rng"
  _law_many : NameOk (defScope s__law_digits) "_law_many"
  _law_front : NameOk (defScope s__law_digits) "_law_front"
  _law_line : NameOk (defScope s__law_digits) "_law_line"
  _law_fewer : NameOk (defScope s__law_digits) "_law_fewer"
theorem v__law_digits : V__law_digits := ⟨⟨by unfold Vis; decide +kernel, by decide +kernel, by decide +kernel⟩, ⟨by unfold Vis; decide +kernel, by decide +kernel, by decide +kernel⟩, ⟨by unfold Vis; decide +kernel, by decide +kernel, by decide +kernel⟩, ⟨by unfold Vis; decide +kernel, by decide +kernel, by decide +kernel⟩, ⟨by unfold Vis; decide +kernel, by decide +kernel, by decide +kernel⟩, ⟨by unfold Vis; decide +kernel, by decide +kernel, by decide +kernel⟩, ⟨by unfold Vis; decide +kernel, by decide +kernel, by decide +kernel⟩⟩
structure L__law_digits : Prop where
  _law_many : L2.Loc (defScope s__law_digits) "_law_many"
  _law_front : L2.Loc (defScope s__law_digits) "_law_front"
  _law_line : L2.Loc (defScope s__law_digits) "_law_line"
  _law_turn : L2.Loc (defScope s__law_digits) "_law_turn"
  _law_fewer : L2.Loc (defScope s__law_digits) "_law_fewer"
  _law_unit : L2.Loc (defScope s__law_digits) "_law_unit"
theorem l__law_digits : L__law_digits := ⟨by unfold L2.Loc; decide +kernel, by unfold L2.Loc; decide +kernel, by unfold L2.Loc; decide +kernel, by unfold L2.Loc; decide +kernel, by unfold L2.Loc; decide +kernel, by unfold L2.Loc; decide +kernel⟩
structure G__law_digits : Prop where
  _law_draw : GlOk (defScope s__law_digits) "_law_draw"
  _law_pick : GlOk (defScope s__law_digits) "_law_pick"
  list : GlOk (defScope s__law_digits) "list"
  range : GlOk (defScope s__law_digits) "range"
  len : GlOk (defScope s__law_digits) "len"
  _law_are_digits : GlOk (defScope s__law_digits) "_law_are_digits"
theorem g__law_digits : G__law_digits := ⟨⟨by decide +kernel, by decide +kernel, by decide +kernel⟩, ⟨by decide +kernel, by decide +kernel, by decide +kernel⟩, ⟨by decide +kernel, by decide +kernel, by decide +kernel⟩, ⟨by decide +kernel, by decide +kernel, by decide +kernel⟩, ⟨by decide +kernel, by decide +kernel, by decide +kernel⟩, ⟨by decide +kernel, by decide +kernel, by decide +kernel⟩⟩
def b__law_digits : DM Fl := sSeq (sSet 3 (dOp2 addD (dVar 1) (dCall 2 [] m__law_draw (aIo 0 (aCons (dOp2 addD (dOp2 subD (dVar 2) (dVar 1)) (dC (.int 1))) (aNil)))))) (sSeq (sSet 4 (dCall 2 [] m__law_pick (aIo 0 (aCons (dLst (aCons (dOp2 subD (dC (.int 0)) (dOp2 fdivD (dVar 3) (dC (.int 2)))) (aCons (dC (.int 0)) (aCons (dOp2 subD (dCall 2 [] m__law_draw (aIo 0 (aCons (dC (.int 9)) (aNil)))) (dC (.int 6))) (aNil))))) (aNil))))) (sSeq (sSet 5 (dOp2 rng2D (dVar 4) (dOp2 addD (dVar 4) (dVar 3)))) (sSeq (sFor (iRange1 (vCons (dCall 2 [] m__law_draw (aIo 0 (aCons (dC (.int 3)) (aNil)))) (vNil))) (tgName 6) (sSeq (sSet 7 (dCb gList (vCons (dVar 5) (vNil)))) (sSeq (sExpr (lmD 7 gPopAt (aCons (dCall 2 [] m__law_draw (aIo 0 (aCons (dCb gLen (vCons (dVar 5) (vNil))) (aNil)))) (aNil)))) (sIf (dAndT (fun ρ => (dOp2 gtD (dCb gLen (vCons (dVar 7) (vNil))) (dC (.int 1)) ρ).bind asB) (fun ρ => ((dCall 2 [] m__law_are_digits (aCons (dVar 1) (aCons (dVar 7) (aNil)))) ρ).bind asB)) (sSet 5 (dVar 7)) (sPass))))) (sSeq (sSet 8 (dCall 2 [] m__law_pick (aIo 0 (aCons (dLst (aCons (dC (.int 1)) (aCons (dC (.int 1)) (aCons (dC (.int 1)) (aCons (dC (.int 2)) (aNil)))))) (aNil))))) (sRet (dLc [9] (iSeq (dVar 5)) (tgName 9) (tYesD) (dOp2 mulD (dVar 9) (dVar 8))))))))
def m__law_digits : SE → R RV := mFn n__law_digits.length b__law_digits
theorem d__law_digits {P : Program} {w : World} {base : Heap} {M : Mx} (T : Tx M w) (C__law_draw : Cal P w base M "_law_draw" 1 2 m__law_draw) (C__law_pick : Cal P w base M "_law_pick" 2 2 m__law_pick) (C__law_are_digits : Cal P w base M "_law_are_digits" 1 2 m__law_are_digits) {X : Cx} {W : DL.WX} (C : CxF P w base M n__law_digits (defScope s__law_digits) 2 X W) : DSs X M W (defBody s__law_digits) b__law_digits :=
  (dss_cons (ds_v C.toCxD 3 (C.st l__law_digits._law_many) (de_add (de_v C.toCxD 1 v__law_digits._law_base) (de_callC C.toCxD C__law_draw g__law_digits._law_draw (by decide) (da_v C.toCxD 0 v__law_digits._law_rng (da_cons (de_add (de_sub (de_v C.toCxD 2 v__law_digits._law_most) (de_v C.toCxD 1 v__law_digits._law_base)) de_int C.toCxD.hK) da_nil))) C.toCxD.hK)) (dss_cons (ds_v C.toCxD 4 (C.st l__law_digits._law_front) (de_callC C.toCxD C__law_pick g__law_digits._law_pick (by decide) (da_v C.toCxD 0 v__law_digits._law_rng (da_cons (de_lst (da_cons (de_sub de_int (de_fdiv (de_v C.toCxD 3 v__law_digits._law_many) de_int)) (da_cons de_int (da_cons (de_sub (de_callC C.toCxD C__law_draw g__law_digits._law_draw (by decide) (da_v C.toCxD 0 v__law_digits._law_rng (da_cons de_int da_nil))) de_int) da_nil)))) da_nil)))) (dss_cons (ds_v C.toCxD 5 (C.st l__law_digits._law_line) (de_listRg2 C.toCxD g__law_digits.list T.z_list g__law_digits.range T.z_range (de_v C.toCxD 4 v__law_digits._law_front) (de_add (de_v C.toCxD 4 v__law_digits._law_front) (de_v C.toCxD 3 v__law_digits._law_many) C.toCxD.hK))) (dss_cons (ds_for C.ps C.cm (di_range1F C.toCxD g__law_digits.range T.z_range (dv_cons (de_callC C.toCxD C__law_draw g__law_digits._law_draw (by decide) (da_v C.toCxD 0 v__law_digits._law_rng (da_cons de_int da_nil))) dv_nil)) (dg_v C.toCxD 6 (C.st l__law_digits._law_turn)) (dss_cons (ds_v C.toCxD 7 (C.st l__law_digits._law_fewer) (de_listF C.toCxD g__law_digits.list T.z_list (dv_cons (de_v C.toCxD 5 v__law_digits._law_line) dv_nil))) (dss_cons (ds_expr (de_lm C.toCxD 7 v__law_digits._law_fewer lm_popAt (fun to t p q => pe_bm PySem.F.plainAttrs_list PySem.F.slot_list_pop PySem.F.type_list_pop mt_popAt p q) (da_cons (de_callC C.toCxD C__law_draw g__law_digits._law_draw (by decide) (da_v C.toCxD 0 v__law_digits._law_rng (da_cons (de_lenF C.toCxD g__law_digits.len T.z_len (dv_cons (de_v C.toCxD 5 v__law_digits._law_line) dv_nil)) da_nil))) da_nil))) (dss_one (ds_if (dt_w (dw_and (dt_gt (de_lenF C.toCxD g__law_digits.len T.z_len (dv_cons (de_v C.toCxD 7 v__law_digits._law_fewer) dv_nil)) de_int) (dw_and1 (dt_val (de_callC C.toCxD C__law_are_digits g__law_digits._law_are_digits (by decide) (da_cons (de_v C.toCxD 1 v__law_digits._law_base) (da_cons (de_v C.toCxD 7 v__law_digits._law_fewer) da_nil))))))) (dss_one (ds_v C.toCxD 5 (C.st l__law_digits._law_line) (de_v C.toCxD 7 v__law_digits._law_fewer))) dss_nil))))) (dss_cons (ds_v C.toCxD 8 (C.st l__law_digits._law_unit) (de_callC C.toCxD C__law_pick g__law_digits._law_pick (by decide) (da_v C.toCxD 0 v__law_digits._law_rng (da_cons (de_lst (da_cons de_int (da_cons de_int (da_cons de_int (da_cons de_int da_nil))))) da_nil)))) (dss_one (ds_ret (de_lcF C.toCxD [("_law_digit", 9)] (blkOk_by (by decide +kernel)) tgName_ex (di_seq (de_v C.toCxD 5 v__law_digits._law_line) C.toCxD.hK) (fun _ _ _ _ _ => (dg_v (C.toCxD.blk rfl _ _ _ _ _) 9 ((C.toCxD.blk rfl _ _ _ _ _).stl (by decide +kernel)))) (fun _ _ _ _ _ => dts_nil) (fun _ _ _ _ _ => (de_mul (de_v (C.toCxD.blk rfl _ _ _ _ _) 9 ⟨by unfold Vis; decide +kernel, by decide +kernel, by decide +kernel⟩) (de_v (C.toCxD.blk rfl _ _ _ _ _) 8 ⟨by unfold Vis; decide +kernel, by decide +kernel, by decide +kernel⟩)))))))))))
theorem ok__law_digits {P : Program} {w : World} {base : Heap} {M : Mx} (T : Tx M w) (Dx : DefAt M "_law_digits" s__law_digits ["_law_rng", "_law_base", "_law_most"]) (C__law_draw : Cal P w base M "_law_draw" 1 2 m__law_draw) (C__law_pick : Cal P w base M "_law_pick" 2 2 m__law_pick) (C__law_are_digits : Cal P w base M "_law_are_digits" 1 2 m__law_are_digits) : FnOk P w M.K M.mg base (L2.CX P w) 3 Dx.f Dx.fd ["_law_rng", "_law_base", "_law_most"] (spD M 3 m__law_digits) := by
  have h : ∀ (cdv : Value) (A : Around) (outer : List Env) (s : Shared) (H : Hp) (E : XK), Room 2 (A.deeper (envOfC "_law_digits" (defScope s__law_digits) s.heap.objs.size Dx.f cdv)) → DSs (cxOf (L2.CX P w) P w M.K M.mg base n__law_digits "_law_digits" (defScope s__law_digits) Dx.f cdv A outer s H E) M (fun cls d _ H' => E cls d H') (defBody s__law_digits) b__law_digits := fun cdv A outer s H E hr => d__law_digits T C__law_draw C__law_pick C__law_are_digits (cxF_of sc__law_digits hr)
  exact fn_D Dx.fu sc__law_digits h
def cal__law_digits {P : Program} {w : World} {base : Heap} {M : Mx} (T : Tx M w) (Dx : DefAt M "_law_digits" s__law_digits ["_law_rng", "_law_base", "_law_most"]) (C__law_draw : Cal P w base M "_law_draw" 1 2 m__law_draw) (C__law_pick : Cal P w base M "_law_pick" 2 2 m__law_pick) (C__law_are_digits : Cal P w base M "_law_are_digits" 1 2 m__law_are_digits) : Cal P w base M "_law_digits" 3 3 m__law_digits := Dx.cal (ok__law_digits (P := P) (base := base) T Dx C__law_draw C__law_pick C__law_are_digits)
abbrev s__law_lowest : Stmt := topS 32
abbrev n__law_lowest : List Str := ["_law_above", "_law_below", "_law_one", "_law_other"]
theorem sc__law_lowest : FnScope n__law_lowest ["_law_above", "_law_below"] (defScope s__law_lowest) := ⟨rfl, rfl, rfl, by decide +kernel, rfl, by decide +kernel, by decide +kernel⟩
structure V__law_lowest : Prop where
  _law_below : NameOk (defScope s__law_lowest) "_law_below"
  _law_above : NameOk (defScope s__law_lowest) "_law_above"
  _law_other : NameOk (defScope s__law_lowest) "_law_other"
  _law_one : NameOk (defScope s__law_lowest) "_law_one"
theorem v__law_lowest : V__law_lowest := ⟨⟨by unfold Vis; decide +kernel, by decide +kernel, by decide +kernel⟩, ⟨by unfold Vis; decide +kernel, by decide +kernel, by decide +kernel⟩, ⟨by unfold Vis; decide +kernel, by decide +kernel, by decide +kernel⟩, ⟨by unfold Vis; decide +kernel, by decide +kernel, by decide +kernel⟩⟩
structure G__law_lowest : Prop where
  abs : GlOk (defScope s__law_lowest) "abs"
theorem g__law_lowest : G__law_lowest := ⟨⟨by decide +kernel, by decide +kernel, by decide +kernel⟩⟩
def b__law_lowest : DM Fl := sSeq (sIf (fun ρ => (dOp2 ltD (dVar 1) (dC (.int 0)) ρ).bind asB) (sPar 0 1 (aCons (dOp2 subD (dC (.int 0)) (dVar 0)) (aCons (dOp2 subD (dC (.int 0)) (dVar 1)) (aNil)))) (sPass)) (sSeq (sPar 2 3 (aCons (dCb gAbs (vCons (dVar 0) (vNil))) (aCons (dVar 1) (aNil)))) (sSeq (sWhile (fun ρ => (dOp2 neD (dVar 3) (dC (.int 0)) ρ).bind asB) (sPar 2 3 (aCons (dVar 3) (aCons (dOp2 modD (dVar 2) (dVar 3)) (aNil))))) (sRet (dTup (aCons (dOp2 fdivD (dVar 0) (dVar 2)) (aCons (dOp2 fdivD (dVar 1) (dVar 2)) (aNil)))))))
def m__law_lowest : SE → R RV := mFn n__law_lowest.length b__law_lowest
theorem d__law_lowest {P : Program} {w : World} {base : Heap} {M : Mx} (T : Tx M w)  {X : Cx} {W : DL.WX} (C : CxF P w base M n__law_lowest (defScope s__law_lowest) 0 X W) : DSs X M W (defBody s__law_lowest) b__law_lowest :=
  (dss_cons (ds_if (dt_lt (de_v C.toCxD 1 v__law_lowest._law_below) de_int) (dss_one (ds_parv C.toCxD 0 1 (by decide +kernel) (by decide +kernel) rfl (by decide +kernel) (da_cons (de_sub de_int (de_v C.toCxD 0 v__law_lowest._law_above)) (da_cons (de_sub de_int (de_v C.toCxD 1 v__law_lowest._law_below)) da_nil)))) dss_nil) (dss_cons (ds_parv C.toCxD 2 3 (by decide +kernel) (by decide +kernel) rfl (by decide +kernel) (da_cons (de_absF C.toCxD g__law_lowest.abs T.z_abs (dv_cons (de_v C.toCxD 0 v__law_lowest._law_above) dv_nil)) (da_cons (de_v C.toCxD 1 v__law_lowest._law_below) da_nil))) (dss_cons (ds_while C.ps (dt_ne (de_v C.toCxD 3 v__law_lowest._law_other) de_int C.toCxD.u64 C.toCxD.hK) (dss_one (ds_parv C.toCxD 2 3 (by decide +kernel) (by decide +kernel) rfl (by decide +kernel) (da_cons (de_v C.toCxD 3 v__law_lowest._law_other) (da_cons (de_mod (de_v C.toCxD 2 v__law_lowest._law_one) (de_v C.toCxD 3 v__law_lowest._law_other)) da_nil))))) (dss_one (ds_ret (de_tup (da_cons (de_fdiv (de_v C.toCxD 0 v__law_lowest._law_above) (de_v C.toCxD 2 v__law_lowest._law_one)) (da_cons (de_fdiv (de_v C.toCxD 1 v__law_lowest._law_below) (de_v C.toCxD 2 v__law_lowest._law_one)) da_nil))))))))
theorem ok__law_lowest {P : Program} {w : World} {base : Heap} {M : Mx} (T : Tx M w) (Dx : DefAt M "_law_lowest" s__law_lowest ["_law_above", "_law_below"])  : FnOk P w M.K M.mg base (L2.CX P w) 1 Dx.f Dx.fd ["_law_above", "_law_below"] (spD M 2 m__law_lowest) := by
  have h : ∀ (cdv : Value) (A : Around) (outer : List Env) (s : Shared) (H : Hp) (E : XK), Room 0 (A.deeper (envOfC "_law_lowest" (defScope s__law_lowest) s.heap.objs.size Dx.f cdv)) → DSs (cxOf (L2.CX P w) P w M.K M.mg base n__law_lowest "_law_lowest" (defScope s__law_lowest) Dx.f cdv A outer s H E) M (fun cls d _ H' => E cls d H') (defBody s__law_lowest) b__law_lowest := fun cdv A outer s H E hr => d__law_lowest T  (cxF_of sc__law_lowest hr)
  exact fn_D Dx.fu sc__law_lowest h
def cal__law_lowest {P : Program} {w : World} {base : Heap} {M : Mx} (T : Tx M w) (Dx : DefAt M "_law_lowest" s__law_lowest ["_law_above", "_law_below"])  : Cal P w base M "_law_lowest" 1 2 m__law_lowest := Dx.cal (ok__law_lowest (P := P) (base := base) T Dx )
abbrev s__law_ends : Stmt := topS 38
abbrev n__law_ends : List Str := ["_law_base", "_law_digits_here"]
theorem sc__law_ends : FnScope n__law_ends ["_law_base", "_law_digits_here"] (defScope s__law_ends) := ⟨rfl, rfl, rfl, by decide +kernel, rfl, by decide +kernel, by decide +kernel⟩
structure V__law_ends : Prop where
  _law_base : NameOk (defScope s__law_ends) "_law_base"
  _law_digits_here : NameOk (defScope s__law_ends) "_law_digits_here"
theorem v__law_ends : V__law_ends := ⟨⟨by unfold Vis; decide +kernel, by decide +kernel, by decide +kernel⟩, ⟨by unfold Vis; decide +kernel, by decide +kernel, by decide +kernel⟩⟩
structure G__law_ends : Prop where
  max : GlOk (defScope s__law_ends) "max"
  _law_lowest : GlOk (defScope s__law_ends) "_law_lowest"
  min : GlOk (defScope s__law_ends) "min"
theorem g__law_ends : G__law_ends := ⟨⟨by decide +kernel, by decide +kernel, by decide +kernel⟩, ⟨by decide +kernel, by decide +kernel, by decide +kernel⟩, ⟨by decide +kernel, by decide +kernel, by decide +kernel⟩⟩
def b__law_ends : DM Fl := sRet (dTup (aCons (dCall 2 [] m__law_lowest (aCons (dCb gMin (vCons (dVar 1) (vNil))) (aCons (dOp2 subD (dVar 0) (dC (.int 1))) (aNil)))) (aCons (dCall 2 [] m__law_lowest (aCons (dCb gMax (vCons (dVar 1) (vNil))) (aCons (dOp2 subD (dVar 0) (dC (.int 1))) (aNil)))) (aNil))))
def m__law_ends : SE → R RV := mFn n__law_ends.length b__law_ends
theorem d__law_ends {P : Program} {w : World} {base : Heap} {M : Mx} (T : Tx M w) (C__law_lowest : Cal P w base M "_law_lowest" 1 2 m__law_lowest) {X : Cx} {W : DL.WX} (C : CxF P w base M n__law_ends (defScope s__law_ends) 1 X W) : DSs X M W (defBody s__law_ends) b__law_ends :=
  (dss_one (ds_ret (de_tup (da_cons (de_callC C.toCxD C__law_lowest g__law_ends._law_lowest (by decide) (da_cons (de_minF C.toCxD g__law_ends.min T.z_min (dv_cons (de_v C.toCxD 1 v__law_ends._law_digits_here) dv_nil)) (da_cons (de_sub (de_v C.toCxD 0 v__law_ends._law_base) de_int) da_nil))) (da_cons (de_callC C.toCxD C__law_lowest g__law_ends._law_lowest (by decide) (da_cons (de_maxF C.toCxD g__law_ends.max T.z_max (dv_cons (de_v C.toCxD 1 v__law_ends._law_digits_here) dv_nil)) (da_cons (de_sub (de_v C.toCxD 0 v__law_ends._law_base) de_int) da_nil))) da_nil)))))
theorem ok__law_ends {P : Program} {w : World} {base : Heap} {M : Mx} (T : Tx M w) (Dx : DefAt M "_law_ends" s__law_ends ["_law_base", "_law_digits_here"]) (C__law_lowest : Cal P w base M "_law_lowest" 1 2 m__law_lowest) : FnOk P w M.K M.mg base (L2.CX P w) 2 Dx.f Dx.fd ["_law_base", "_law_digits_here"] (spD M 2 m__law_ends) := by
  have h : ∀ (cdv : Value) (A : Around) (outer : List Env) (s : Shared) (H : Hp) (E : XK), Room 1 (A.deeper (envOfC "_law_ends" (defScope s__law_ends) s.heap.objs.size Dx.f cdv)) → DSs (cxOf (L2.CX P w) P w M.K M.mg base n__law_ends "_law_ends" (defScope s__law_ends) Dx.f cdv A outer s H E) M (fun cls d _ H' => E cls d H') (defBody s__law_ends) b__law_ends := fun cdv A outer s H E hr => d__law_ends T C__law_lowest (cxF_of sc__law_ends hr)
  exact fn_D Dx.fu sc__law_ends h
def cal__law_ends {P : Program} {w : World} {base : Heap} {M : Mx} (T : Tx M w) (Dx : DefAt M "_law_ends" s__law_ends ["_law_base", "_law_digits_here"]) (C__law_lowest : Cal P w base M "_law_lowest" 1 2 m__law_lowest) : Cal P w base M "_law_ends" 2 2 m__law_ends := Dx.cal (ok__law_ends (P := P) (base := base) T Dx C__law_lowest)
abbrev s_are_digits : Stmt := topS 22
abbrev n_are_digits : List Str := ["base", "digits", "digit", "width", "before", "after"]
theorem sc_are_digits : FnScope n_are_digits ["base", "digits"] (defScope s_are_digits) := ⟨rfl, rfl, rfl, by decide +kernel, rfl, by decide +kernel, by decide +kernel⟩
structure V_are_digits : Prop where
  digits : NameOk (defScope s_are_digits) "digits"
theorem v_are_digits : V_are_digits := ⟨⟨by unfold Vis; decide +kernel, by decide +kernel, by decide +kernel⟩⟩
structure L_are_digits : Prop where
  width : L2.Loc (defScope s_are_digits) "width"
theorem l_are_digits : L_are_digits := ⟨by unfold L2.Loc; decide +kernel⟩
structure G_are_digits : Prop where
  len : GlOk (defScope s_are_digits) "len"
  MAX_DIGITS : GlOk (defScope s_are_digits) "MAX_DIGITS"
  all : GlOk (defScope s_are_digits) "all"
  zip : GlOk (defScope s_are_digits) "zip"
theorem g_are_digits : G_are_digits := ⟨⟨by decide +kernel, by decide +kernel, by decide +kernel⟩, ⟨by decide +kernel, by decide +kernel, by decide +kernel⟩, ⟨by decide +kernel, by decide +kernel, by decide +kernel⟩, ⟨by decide +kernel, by decide +kernel, by decide +kernel⟩⟩
def b_are_digits : DM Fl := sSeq (sIf (dOrT (dNotT (fun ρ => (dChain leD leD (dC (.int 2)) (dCb gLen (vCons (dVar 1) (vNil))) (dC c_MAX_DIGITS) ρ).bind asB)) (dNotT (fun ρ => ((dCb gAll (vCons (dLc [2] (iSeq (dVar 1)) (tgName 2) (tYesD) (dOp2 leD (dCb gAbs (vCons (dVar 2) (vNil))) (dC c_MAX_DIGIT))) (vNil))) ρ).bind asB))) (sRet (dC (.bl false))) (sPass)) (sSeq (sSet 3 (dOp2 subD (dOp2 ixD (dVar 1) (dOp1 negD (dC (.int 1)))) (dOp2 ixD (dVar 1) (dC (.int 0))))) (sRet (dCb gAll (vCons (dLc [4, 5] (iZip2 (aCons (dVar 1) (aCons (dSl (dVar 1) (oSome (dC (.int 1))) (oNone)) (aNil)))) (tgTup 2 (tgCons (tgName 4) (tgCons (tgName 5) (tgNil)))) (tYesD) (dOp2 leD (dOp2 mulD (dOp2 subD (dVar 5) (dVar 4)) (dOp2 subD (dVar 0) (dC (.int 1)))) (dVar 3))) (vNil)))))
def m_are_digits : SE → R RV := mFn n_are_digits.length b_are_digits
theorem d_are_digits {P : Program} {w : World} {base : Heap} {M : Mx} (T : Tx M w)  {X : Cx} {W : DL.WX} (C : CxF P w base M n_are_digits (defScope s_are_digits) 0 X W) : DSs X M W (defBody s_are_digits) b_are_digits :=
  (dss_cons (ds_if (dt_w (dw_or (dt_not (dt_chain op_le op_le o2_le o2_le de_int (de_lenF C.toCxD g_are_digits.len T.z_len (dv_cons (de_v C.toCxD 1 v_are_digits.digits) dv_nil)) (de_k C.toCxD g_are_digits.MAX_DIGITS T.k_MAX_DIGITS))) (dw_or1 (dt_not (dt_val (de_allF C.toCxD g_are_digits.all T.z_all (dv_cons (de_lcF C.toCxD [("digit", 2)] (blkOk_by (by decide +kernel)) tgName_ex (di_seq (de_v C.toCxD 1 v_are_digits.digits) C.toCxD.hK) (fun _ _ _ _ _ => (dg_v (C.toCxD.blk rfl _ _ _ _ _) 2 ((C.toCxD.blk rfl _ _ _ _ _).stl (by decide +kernel)))) (fun _ _ _ _ _ => dts_nil) (fun _ _ _ _ _ => (de_le (de_absF (C.toCxD.blk rfl _ _ _ _ _) ⟨by decide +kernel, by decide +kernel, by decide +kernel⟩ T.z_abs (dv_cons (de_v (C.toCxD.blk rfl _ _ _ _ _) 2 ⟨by unfold Vis; decide +kernel, by decide +kernel, by decide +kernel⟩) dv_nil)) (de_k (C.toCxD.blk rfl _ _ _ _ _) ⟨by decide +kernel, by decide +kernel, by decide +kernel⟩ T.k_MAX_DIGIT)))) dv_nil))))))) (dss_one (ds_ret de_bl)) dss_nil) (dss_cons (ds_v C.toCxD 3 (C.st l_are_digits.width) (de_sub (de_ix (de_v C.toCxD 1 v_are_digits.digits) (de_neg de_int) (fun _ _ => rfl) C.toCxD.hK) (de_ix (de_v C.toCxD 1 v_are_digits.digits) de_int (fun _ _ => rfl) C.toCxD.hK))) (dss_one (ds_ret (de_allF C.toCxD g_are_digits.all T.z_all (dv_cons (de_lcF C.toCxD [("before", 4), ("after", 5)] (blkOk_by (by decide +kernel)) (tgTup_ex (tgCons_ex tgName_ex (tgCons_ex tgName_ex tgNil_ex))) (di_zipF C.toCxD g_are_digits.zip T.z_zip (da_cons (de_v C.toCxD 1 v_are_digits.digits) (da_cons (de_sl (de_v C.toCxD 1 v_are_digits.digits) (do_some de_int) do_none C.toCxD.hK) da_nil))) (fun _ _ _ _ _ => (dg_tup (C.toCxD.blk rfl _ _ _ _ _).cm (dgs_cons (dg_v (C.toCxD.blk rfl _ _ _ _ _) 4 ((C.toCxD.blk rfl _ _ _ _ _).stl (by decide +kernel))) (dgs_cons (dg_v (C.toCxD.blk rfl _ _ _ _ _) 5 ((C.toCxD.blk rfl _ _ _ _ _).stl (by decide +kernel))) dgs_nil)) rfl rfl (C.toCxD.blk rfl _ _ _ _ _).hK)) (fun _ _ _ _ _ => dts_nil) (fun _ _ _ _ _ => (de_le (de_mul (de_sub (de_v (C.toCxD.blk rfl _ _ _ _ _) 5 ⟨by unfold Vis; decide +kernel, by decide +kernel, by decide +kernel⟩) (de_v (C.toCxD.blk rfl _ _ _ _ _) 4 ⟨by unfold Vis; decide +kernel, by decide +kernel, by decide +kernel⟩)) (de_sub (de_v (C.toCxD.blk rfl _ _ _ _ _) 0 ⟨by unfold Vis; decide +kernel, by decide +kernel, by decide +kernel⟩) de_int)) (de_v (C.toCxD.blk rfl _ _ _ _ _) 3 ⟨by unfold Vis; decide +kernel, by decide +kernel, by decide +kernel⟩)))) dv_nil))))))
theorem ok_are_digits {P : Program} {w : World} {base : Heap} {M : Mx} (T : Tx M w) (Dx : DefAt M "are_digits" s_are_digits ["base", "digits"])  : FnOk P w M.K M.mg base (L2.CX P w) 1 Dx.f Dx.fd ["base", "digits"] (spD M 2 m_are_digits) := by
  have h : ∀ (cdv : Value) (A : Around) (outer : List Env) (s : Shared) (H : Hp) (E : XK), Room 0 (A.deeper (envOfC "are_digits" (defScope s_are_digits) s.heap.objs.size Dx.f cdv)) → DSs (cxOf (L2.CX P w) P w M.K M.mg base n_are_digits "are_digits" (defScope s_are_digits) Dx.f cdv A outer s H E) M (fun cls d _ H' => E cls d H') (defBody s_are_digits) b_are_digits := fun cdv A outer s H E hr => d_are_digits T  (cxF_of sc_are_digits hr)
  exact fn_D Dx.fu sc_are_digits h
def cal_are_digits {P : Program} {w : World} {base : Heap} {M : Mx} (T : Tx M w) (Dx : DefAt M "are_digits" s_are_digits ["base", "digits"])  : Cal P w base M "are_digits" 1 2 m_are_digits := Dx.cal (ok_are_digits (P := P) (base := base) T Dx )
abbrev s_DigitSet____init__ : Stmt := L2.inClass (topS 23) 0
abbrev n_DigitSet____init__ : List Str := ["self", "base", "digits", "ordered"]
theorem sc_DigitSet____init__ : FnScope n_DigitSet____init__ ["self", "base", "digits"] (defScope s_DigitSet____init__) := ⟨rfl, rfl, rfl, by decide +kernel, rfl, by decide +kernel, by decide +kernel⟩
structure V_DigitSet____init__ : Prop where
  base : NameOk (defScope s_DigitSet____init__) "base"
  digits : NameOk (defScope s_DigitSet____init__) "digits"
  ordered : NameOk (defScope s_DigitSet____init__) "ordered"
  self : NameOk (defScope s_DigitSet____init__) "self"
theorem v_DigitSet____init__ : V_DigitSet____init__ := ⟨⟨by unfold Vis; decide +kernel, by decide +kernel, by decide +kernel⟩, ⟨by unfold Vis; decide +kernel, by decide +kernel, by decide +kernel⟩, ⟨by unfold Vis; decide +kernel, by decide +kernel, by decide +kernel⟩, ⟨by unfold Vis; decide +kernel, by decide +kernel, by decide +kernel⟩⟩
structure L_DigitSet____init__ : Prop where
  ordered : L2.Loc (defScope s_DigitSet____init__) "ordered"
theorem l_DigitSet____init__ : L_DigitSet____init__ := ⟨by unfold L2.Loc; decide +kernel⟩
structure G_DigitSet____init__ : Prop where
  MAX_BASE : GlOk (defScope s_DigitSet____init__) "MAX_BASE"
  InvalidBase : GlOk (defScope s_DigitSet____init__) "InvalidBase"
  sorted : GlOk (defScope s_DigitSet____init__) "sorted"
  len : GlOk (defScope s_DigitSet____init__) "len"
  set : GlOk (defScope s_DigitSet____init__) "set"
  are_digits : GlOk (defScope s_DigitSet____init__) "are_digits"
  InvalidDigits : GlOk (defScope s_DigitSet____init__) "InvalidDigits"
  tuple : GlOk (defScope s_DigitSet____init__) "tuple"
theorem g_DigitSet____init__ : G_DigitSet____init__ := ⟨⟨by decide +kernel, by decide +kernel, by decide +kernel⟩, ⟨by decide +kernel, by decide +kernel, by decide +kernel⟩, ⟨by decide +kernel, by decide +kernel, by decide +kernel⟩, ⟨by decide +kernel, by decide +kernel, by decide +kernel⟩, ⟨by decide +kernel, by decide +kernel, by decide +kernel⟩, ⟨by decide +kernel, by decide +kernel, by decide +kernel⟩, ⟨by decide +kernel, by decide +kernel, by decide +kernel⟩, ⟨by decide +kernel, by decide +kernel, by decide +kernel⟩⟩
def b_DigitSet____init__ : DM Fl := sSeq (sIf (dNotT (fun ρ => (dChain leD leD (dC (.int 2)) (dVar 1) (dC c_MAX_BASE) ρ).bind asB)) (sRaise0 "InvalidBase" "InvalidBase") (sPass)) (sSeq (sSet 3 (dCb gSorted (vCons (dVar 2) (vNil)))) (sSeq (sIf (dOrT (fun ρ => (dOp2 neD (dOp1 lenSetD (dVar 3)) (dCb gLen (vCons (dVar 3) (vNil))) ρ).bind asB) (dNotT (fun ρ => ((dCall 2 [] m_are_digits (aCons (dVar 1) (aCons (dVar 3) (aNil)))) ρ).bind asB))) (sRaise0 "InvalidDigits" "InvalidDigits") (sPass)) (sSeq (sFldD 0 "DigitSet" "base" (dVar 1)) (sFldD 0 "DigitSet" "digits" (dCb gTuple (vCons (dVar 3) (vNil)))))))
def m_DigitSet____init__ : SE → R RV := mFn n_DigitSet____init__.length b_DigitSet____init__
theorem d_DigitSet____init__ {P : Program} {w : World} {base : Heap} {M : Mx} (T : Tx M w) (C_are_digits : Cal P w base M "are_digits" 1 2 m_are_digits) {X : Cx} {W : DL.WX} (C : CxF P w base M n_DigitSet____init__ (defScope s_DigitSet____init__) 2 X W) : DSs X M W (defBody s_DigitSet____init__) b_DigitSet____init__ :=
  (dss_cons (ds_if (dt_not (dt_chain op_le op_le o2_le o2_le de_int (de_v C.toCxD 1 v_DigitSet____init__.base) (de_k C.toCxD g_DigitSet____init__.MAX_BASE T.k_MAX_BASE))) (dss_one (ds_raise0 (k := 0) C.toCxD T.x_InvalidBase g_DigitSet____init__.InvalidBase (by decide))) dss_nil) (dss_cons (ds_v C.toCxD 3 (C.st l_DigitSet____init__.ordered) (de_sortedF C.toCxD g_DigitSet____init__.sorted T.z_sorted (dv_cons (de_v C.toCxD 2 v_DigitSet____init__.digits) dv_nil))) (dss_cons (ds_if (dt_w (dw_or (dt_ne (de_lenSetF C.toCxD g_DigitSet____init__.len T.z_len g_DigitSet____init__.set T.z_set (de_v C.toCxD 3 v_DigitSet____init__.ordered)) (de_lenF C.toCxD g_DigitSet____init__.len T.z_len (dv_cons (de_v C.toCxD 3 v_DigitSet____init__.ordered) dv_nil)) C.toCxD.u64 C.toCxD.hK) (dw_or1 (dt_not (dt_val (de_callC C.toCxD C_are_digits g_DigitSet____init__.are_digits (by decide) (da_cons (de_v C.toCxD 1 v_DigitSet____init__.base) (da_cons (de_v C.toCxD 3 v_DigitSet____init__.ordered) da_nil)))))))) (dss_one (ds_raise0 (k := 0) C.toCxD T.x_InvalidDigits g_DigitSet____init__.InvalidDigits (by decide))) dss_nil) (dss_cons (ds_fldC C.toCxD 0 v_DigitSet____init__.self T.c_DigitSet (by decide +kernel) (de_v C.toCxD 1 v_DigitSet____init__.base)) (dss_one (ds_fldC C.toCxD 0 v_DigitSet____init__.self T.c_DigitSet (by decide +kernel) (de_tupleF C.toCxD g_DigitSet____init__.tuple T.z_tuple (dv_cons (de_v C.toCxD 3 v_DigitSet____init__.ordered) dv_nil))))))))
theorem ok_DigitSet____init__ {P : Program} {w : World} {base : Heap} {M : Mx} (T : Tx M w) (Dx : IDefAt M "DigitSet" "DigitSet.__init__" s_DigitSet____init__ ["self", "base", "digits"]) (C_are_digits : Cal P w base M "are_digits" 1 2 m_are_digits) : FnOk P w M.K M.mg base (L2.CX P w) 3 Dx.f Dx.fd ["self", "base", "digits"] (spD M 3 m_DigitSet____init__) := by
  have h : ∀ (cdv : Value) (A : Around) (outer : List Env) (s : Shared) (H : Hp) (E : XK), Room 2 (A.deeper (envOfC "DigitSet.__init__" (defScope s_DigitSet____init__) s.heap.objs.size Dx.f cdv)) → DSs (cxOf (L2.CX P w) P w M.K M.mg base n_DigitSet____init__ "DigitSet.__init__" (defScope s_DigitSet____init__) Dx.f cdv A outer s H E) M (fun cls d _ H' => E cls d H') (defBody s_DigitSet____init__) b_DigitSet____init__ := fun cdv A outer s H E hr => d_DigitSet____init__ T C_are_digits (cxF_of sc_DigitSet____init__ hr)
  exact fn_D Dx.fu sc_DigitSet____init__ h
def cal_DigitSet____init__ {P : Program} {w : World} {base : Heap} {M : Mx} (T : Tx M w) (Dx : IDefAt M "DigitSet" "DigitSet.__init__" s_DigitSet____init__ ["self", "base", "digits"]) (C_are_digits : Cal P w base M "are_digits" 1 2 m_are_digits) : ICal P w base M "DigitSet" 3 3 m_DigitSet____init__ := Dx.cal (ok_DigitSet____init__ (P := P) (base := base) T Dx C_are_digits)
abbrev s__law_set : Stmt := topS 42
abbrev n__law_set : List Str := ["_law_base", "_law_digits_here"]
theorem sc__law_set : FnScope n__law_set ["_law_base", "_law_digits_here"] (defScope s__law_set) := ⟨rfl, rfl, rfl, by decide +kernel, rfl, by decide +kernel, by decide +kernel⟩
structure V__law_set : Prop where
  _law_digits_here : NameOk (defScope s__law_set) "_law_digits_here"
  _law_base : NameOk (defScope s__law_set) "_law_base"
theorem v__law_set : V__law_set := ⟨⟨by unfold Vis; decide +kernel, by decide +kernel, by decide +kernel⟩, ⟨by unfold Vis; decide +kernel, by decide +kernel, by decide +kernel⟩⟩
structure G__law_set : Prop where
  list : GlOk (defScope s__law_set) "list"
  DigitSet : GlOk (defScope s__law_set) "DigitSet"
theorem g__law_set : G__law_set := ⟨⟨by decide +kernel, by decide +kernel, by decide +kernel⟩, ⟨by decide +kernel, by decide +kernel, by decide +kernel⟩⟩
def b__law_set : DM Fl := sRet (dMake "DigitSet" 3 [] m_DigitSet____init__ (aCons (dVar 0) (aCons (dCb gList (vCons (dVar 1) (vNil))) (aNil))))
def m__law_set : SE → R RV := mFn n__law_set.length b__law_set
theorem d__law_set {P : Program} {w : World} {base : Heap} {M : Mx} (T : Tx M w) (C_DigitSet____init__ : ICal P w base M "DigitSet" 3 3 m_DigitSet____init__) {X : Cx} {W : DL.WX} (C : CxF P w base M n__law_set (defScope s__law_set) 4 X W) : DSs X M W (defBody s__law_set) b__law_set :=
  (dss_one (ds_ret (de_make C.toCxD C_DigitSet____init__ (bd_nil C_DigitSet____init__.b) (fun _ => .nil) g__law_set.DigitSet (by decide) (da_cons (de_v C.toCxD 0 v__law_set._law_base) (da_cons (de_listF C.toCxD g__law_set.list T.z_list (dv_cons (de_v C.toCxD 1 v__law_set._law_digits_here) dv_nil)) da_nil)))))
theorem ok__law_set {P : Program} {w : World} {base : Heap} {M : Mx} (T : Tx M w) (Dx : DefAt M "_law_set" s__law_set ["_law_base", "_law_digits_here"]) (C_DigitSet____init__ : ICal P w base M "DigitSet" 3 3 m_DigitSet____init__) : FnOk P w M.K M.mg base (L2.CX P w) 5 Dx.f Dx.fd ["_law_base", "_law_digits_here"] (spD M 2 m__law_set) := by
  have h : ∀ (cdv : Value) (A : Around) (outer : List Env) (s : Shared) (H : Hp) (E : XK), Room 4 (A.deeper (envOfC "_law_set" (defScope s__law_set) s.heap.objs.size Dx.f cdv)) → DSs (cxOf (L2.CX P w) P w M.K M.mg base n__law_set "_law_set" (defScope s__law_set) Dx.f cdv A outer s H E) M (fun cls d _ H' => E cls d H') (defBody s__law_set) b__law_set := fun cdv A outer s H E hr => d__law_set T C_DigitSet____init__ (cxF_of sc__law_set hr)
  exact fn_D Dx.fu sc__law_set h
def cal__law_set {P : Program} {w : World} {base : Heap} {M : Mx} (T : Tx M w) (Dx : DefAt M "_law_set" s__law_set ["_law_base", "_law_digits_here"]) (C_DigitSet____init__ : ICal P w base M "DigitSet" 3 3 m_DigitSet____init__) : Cal P w base M "_law_set" 5 2 m__law_set := Dx.cal (ok__law_set (P := P) (base := base) T Dx C_DigitSet____init__)
abbrev s__law_plus : Stmt := topS 33
abbrev n__law_plus : List Str := ["_law_one", "_law_other"]
theorem sc__law_plus : FnScope n__law_plus ["_law_one", "_law_other"] (defScope s__law_plus) := ⟨rfl, rfl, rfl, by decide +kernel, rfl, by decide +kernel, by decide +kernel⟩
structure V__law_plus : Prop where
  _law_one : NameOk (defScope s__law_plus) "_law_one"
  _law_other : NameOk (defScope s__law_plus) "_law_other"
theorem v__law_plus : V__law_plus := ⟨⟨by unfold Vis; decide +kernel, by decide +kernel, by decide +kernel⟩, ⟨by unfold Vis; decide +kernel, by decide +kernel, by decide +kernel⟩⟩
structure G__law_plus : Prop where
  _law_lowest : GlOk (defScope s__law_plus) "_law_lowest"
theorem g__law_plus : G__law_plus := ⟨⟨by decide +kernel, by decide +kernel, by decide +kernel⟩⟩
def b__law_plus : DM Fl := sRet (dCall 2 [] m__law_lowest (aCons (dOp2 addD (dOp2 mulD (dOp2 ixD (dVar 0) (dC (.int 0))) (dOp2 ixD (dVar 1) (dC (.int 1)))) (dOp2 mulD (dOp2 ixD (dVar 1) (dC (.int 0))) (dOp2 ixD (dVar 0) (dC (.int 1))))) (aCons (dOp2 mulD (dOp2 ixD (dVar 0) (dC (.int 1))) (dOp2 ixD (dVar 1) (dC (.int 1)))) (aNil))))
def m__law_plus : SE → R RV := mFn n__law_plus.length b__law_plus
theorem d__law_plus {P : Program} {w : World} {base : Heap} {M : Mx} (T : Tx M w) (C__law_lowest : Cal P w base M "_law_lowest" 1 2 m__law_lowest) {X : Cx} {W : DL.WX} (C : CxF P w base M n__law_plus (defScope s__law_plus) 1 X W) : DSs X M W (defBody s__law_plus) b__law_plus :=
  (dss_one (ds_ret (de_callC C.toCxD C__law_lowest g__law_plus._law_lowest (by decide) (da_cons (de_add (de_mul (de_ix (de_v C.toCxD 0 v__law_plus._law_one) de_int (fun _ _ => rfl) C.toCxD.hK) (de_ix (de_v C.toCxD 1 v__law_plus._law_other) de_int (fun _ _ => rfl) C.toCxD.hK)) (de_mul (de_ix (de_v C.toCxD 1 v__law_plus._law_other) de_int (fun _ _ => rfl) C.toCxD.hK) (de_ix (de_v C.toCxD 0 v__law_plus._law_one) de_int (fun _ _ => rfl) C.toCxD.hK)) C.toCxD.hK) (da_cons (de_mul (de_ix (de_v C.toCxD 0 v__law_plus._law_one) de_int (fun _ _ => rfl) C.toCxD.hK) (de_ix (de_v C.toCxD 1 v__law_plus._law_other) de_int (fun _ _ => rfl) C.toCxD.hK)) da_nil)))))
theorem ok__law_plus {P : Program} {w : World} {base : Heap} {M : Mx} (T : Tx M w) (Dx : DefAt M "_law_plus" s__law_plus ["_law_one", "_law_other"]) (C__law_lowest : Cal P w base M "_law_lowest" 1 2 m__law_lowest) : FnOk P w M.K M.mg base (L2.CX P w) 2 Dx.f Dx.fd ["_law_one", "_law_other"] (spD M 2 m__law_plus) := by
  have h : ∀ (cdv : Value) (A : Around) (outer : List Env) (s : Shared) (H : Hp) (E : XK), Room 1 (A.deeper (envOfC "_law_plus" (defScope s__law_plus) s.heap.objs.size Dx.f cdv)) → DSs (cxOf (L2.CX P w) P w M.K M.mg base n__law_plus "_law_plus" (defScope s__law_plus) Dx.f cdv A outer s H E) M (fun cls d _ H' => E cls d H') (defBody s__law_plus) b__law_plus := fun cdv A outer s H E hr => d__law_plus T C__law_lowest (cxF_of sc__law_plus hr)
  exact fn_D Dx.fu sc__law_plus h
def cal__law_plus {P : Program} {w : World} {base : Heap} {M : Mx} (T : Tx M w) (Dx : DefAt M "_law_plus" s__law_plus ["_law_one", "_law_other"]) (C__law_lowest : Cal P w base M "_law_lowest" 1 2 m__law_lowest) : Cal P w base M "_law_plus" 2 2 m__law_plus := Dx.cal (ok__law_plus (P := P) (base := base) T Dx C__law_lowest)
abbrev s__law_times : Stmt := topS 35
abbrev n__law_times : List Str := ["_law_one", "_law_other"]
theorem sc__law_times : FnScope n__law_times ["_law_one", "_law_other"] (defScope s__law_times) := ⟨rfl, rfl, rfl, by decide +kernel, rfl, by decide +kernel, by decide +kernel⟩
structure V__law_times : Prop where
  _law_one : NameOk (defScope s__law_times) "_law_one"
  _law_other : NameOk (defScope s__law_times) "_law_other"
theorem v__law_times : V__law_times := ⟨⟨by unfold Vis; decide +kernel, by decide +kernel, by decide +kernel⟩, ⟨by unfold Vis; decide +kernel, by decide +kernel, by decide +kernel⟩⟩
structure G__law_times : Prop where
  _law_lowest : GlOk (defScope s__law_times) "_law_lowest"
theorem g__law_times : G__law_times := ⟨⟨by decide +kernel, by decide +kernel, by decide +kernel⟩⟩
def b__law_times : DM Fl := sRet (dCall 2 [] m__law_lowest (aCons (dOp2 mulD (dOp2 ixD (dVar 0) (dC (.int 0))) (dOp2 ixD (dVar 1) (dC (.int 0)))) (aCons (dOp2 mulD (dOp2 ixD (dVar 0) (dC (.int 1))) (dOp2 ixD (dVar 1) (dC (.int 1)))) (aNil))))
def m__law_times : SE → R RV := mFn n__law_times.length b__law_times
theorem d__law_times {P : Program} {w : World} {base : Heap} {M : Mx} (T : Tx M w) (C__law_lowest : Cal P w base M "_law_lowest" 1 2 m__law_lowest) {X : Cx} {W : DL.WX} (C : CxF P w base M n__law_times (defScope s__law_times) 1 X W) : DSs X M W (defBody s__law_times) b__law_times :=
  (dss_one (ds_ret (de_callC C.toCxD C__law_lowest g__law_times._law_lowest (by decide) (da_cons (de_mul (de_ix (de_v C.toCxD 0 v__law_times._law_one) de_int (fun _ _ => rfl) C.toCxD.hK) (de_ix (de_v C.toCxD 1 v__law_times._law_other) de_int (fun _ _ => rfl) C.toCxD.hK)) (da_cons (de_mul (de_ix (de_v C.toCxD 0 v__law_times._law_one) de_int (fun _ _ => rfl) C.toCxD.hK) (de_ix (de_v C.toCxD 1 v__law_times._law_other) de_int (fun _ _ => rfl) C.toCxD.hK)) da_nil)))))
theorem ok__law_times {P : Program} {w : World} {base : Heap} {M : Mx} (T : Tx M w) (Dx : DefAt M "_law_times" s__law_times ["_law_one", "_law_other"]) (C__law_lowest : Cal P w base M "_law_lowest" 1 2 m__law_lowest) : FnOk P w M.K M.mg base (L2.CX P w) 2 Dx.f Dx.fd ["_law_one", "_law_other"] (spD M 2 m__law_times) := by
  have h : ∀ (cdv : Value) (A : Around) (outer : List Env) (s : Shared) (H : Hp) (E : XK), Room 1 (A.deeper (envOfC "_law_times" (defScope s__law_times) s.heap.objs.size Dx.f cdv)) → DSs (cxOf (L2.CX P w) P w M.K M.mg base n__law_times "_law_times" (defScope s__law_times) Dx.f cdv A outer s H E) M (fun cls d _ H' => E cls d H') (defBody s__law_times) b__law_times := fun cdv A outer s H E hr => d__law_times T C__law_lowest (cxF_of sc__law_times hr)
  exact fn_D Dx.fu sc__law_times h
def cal__law_times {P : Program} {w : World} {base : Heap} {M : Mx} (T : Tx M w) (Dx : DefAt M "_law_times" s__law_times ["_law_one", "_law_other"]) (C__law_lowest : Cal P w base M "_law_lowest" 1 2 m__law_lowest) : Cal P w base M "_law_times" 2 2 m__law_times := Dx.cal (ok__law_times (P := P) (base := base) T Dx C__law_lowest)
abbrev s__law_minus : Stmt := topS 34
abbrev n__law_minus : List Str := ["_law_one", "_law_other"]
theorem sc__law_minus : FnScope n__law_minus ["_law_one", "_law_other"] (defScope s__law_minus) := ⟨rfl, rfl, rfl, by decide +kernel, rfl, by decide +kernel, by decide +kernel⟩
structure V__law_minus : Prop where
  _law_one : NameOk (defScope s__law_minus) "_law_one"
  _law_other : NameOk (defScope s__law_minus) "_law_other"
theorem v__law_minus : V__law_minus := ⟨⟨by unfold Vis; decide +kernel, by decide +kernel, by decide +kernel⟩, ⟨by unfold Vis; decide +kernel, by decide +kernel, by decide +kernel⟩⟩
structure G__law_minus : Prop where
  _law_lowest : GlOk (defScope s__law_minus) "_law_lowest"
theorem g__law_minus : G__law_minus := ⟨⟨by decide +kernel, by decide +kernel, by decide +kernel⟩⟩
def b__law_minus : DM Fl := sRet (dCall 2 [] m__law_lowest (aCons (dOp2 subD (dOp2 mulD (dOp2 ixD (dVar 0) (dC (.int 0))) (dOp2 ixD (dVar 1) (dC (.int 1)))) (dOp2 mulD (dOp2 ixD (dVar 1) (dC (.int 0))) (dOp2 ixD (dVar 0) (dC (.int 1))))) (aCons (dOp2 mulD (dOp2 ixD (dVar 0) (dC (.int 1))) (dOp2 ixD (dVar 1) (dC (.int 1)))) (aNil))))
def m__law_minus : SE → R RV := mFn n__law_minus.length b__law_minus
theorem d__law_minus {P : Program} {w : World} {base : Heap} {M : Mx} (T : Tx M w) (C__law_lowest : Cal P w base M "_law_lowest" 1 2 m__law_lowest) {X : Cx} {W : DL.WX} (C : CxF P w base M n__law_minus (defScope s__law_minus) 1 X W) : DSs X M W (defBody s__law_minus) b__law_minus :=
  (dss_one (ds_ret (de_callC C.toCxD C__law_lowest g__law_minus._law_lowest (by decide) (da_cons (de_sub (de_mul (de_ix (de_v C.toCxD 0 v__law_minus._law_one) de_int (fun _ _ => rfl) C.toCxD.hK) (de_ix (de_v C.toCxD 1 v__law_minus._law_other) de_int (fun _ _ => rfl) C.toCxD.hK)) (de_mul (de_ix (de_v C.toCxD 1 v__law_minus._law_other) de_int (fun _ _ => rfl) C.toCxD.hK) (de_ix (de_v C.toCxD 0 v__law_minus._law_one) de_int (fun _ _ => rfl) C.toCxD.hK))) (da_cons (de_mul (de_ix (de_v C.toCxD 0 v__law_minus._law_one) de_int (fun _ _ => rfl) C.toCxD.hK) (de_ix (de_v C.toCxD 1 v__law_minus._law_other) de_int (fun _ _ => rfl) C.toCxD.hK)) da_nil)))))
theorem ok__law_minus {P : Program} {w : World} {base : Heap} {M : Mx} (T : Tx M w) (Dx : DefAt M "_law_minus" s__law_minus ["_law_one", "_law_other"]) (C__law_lowest : Cal P w base M "_law_lowest" 1 2 m__law_lowest) : FnOk P w M.K M.mg base (L2.CX P w) 2 Dx.f Dx.fd ["_law_one", "_law_other"] (spD M 2 m__law_minus) := by
  have h : ∀ (cdv : Value) (A : Around) (outer : List Env) (s : Shared) (H : Hp) (E : XK), Room 1 (A.deeper (envOfC "_law_minus" (defScope s__law_minus) s.heap.objs.size Dx.f cdv)) → DSs (cxOf (L2.CX P w) P w M.K M.mg base n__law_minus "_law_minus" (defScope s__law_minus) Dx.f cdv A outer s H E) M (fun cls d _ H' => E cls d H') (defBody s__law_minus) b__law_minus := fun cdv A outer s H E hr => d__law_minus T C__law_lowest (cxF_of sc__law_minus hr)
  exact fn_D Dx.fu sc__law_minus h
def cal__law_minus {P : Program} {w : World} {base : Heap} {M : Mx} (T : Tx M w) (Dx : DefAt M "_law_minus" s__law_minus ["_law_one", "_law_other"]) (C__law_lowest : Cal P w base M "_law_lowest" 1 2 m__law_lowest) : Cal P w base M "_law_minus" 2 2 m__law_minus := Dx.cal (ok__law_minus (P := P) (base := base) T Dx C__law_lowest)
abbrev s__law_in_interval : Stmt := topS 41
abbrev n__law_in_interval : List Str := ["_law_rng", "_law_ends_here", "_law_parts", "_law_below", "_law_share"]
theorem sc__law_in_interval : FnScope n__law_in_interval ["_law_rng", "_law_ends_here", "_law_parts"] (defScope s__law_in_interval) := ⟨rfl, rfl, rfl, by decide +kernel, rfl, by decide +kernel, by decide +kernel⟩
structure V__law_in_interval : Prop where
  _law_parts : NameOk (defScope s__law_in_interval) "_law_parts"
  _law_rng : NameOk (defScope s__law_in_interval) "_law_rng"
  _law_below : NameOk (defScope s__law_in_interval) "_law_below"
  _law_ends_here : NameOk (defScope s__law_in_interval) "_law_ends_here"
  _law_share : NameOk (defScope s__law_in_interval) "_law_share"
theorem v__law_in_interval : V__law_in_interval := ⟨⟨by unfold Vis; decide +kernel, by decide +kernel, by decide +kernel⟩, ⟨by unfold Vis; decide +kernel, by decide +kernel, by decide +kernel⟩, ⟨by unfold Vis; decide +kernel, by decide +kernel, by decide +kernel⟩, ⟨by unfold Vis; decide +kernel, by decide +kernel, by decide +kernel⟩, ⟨by unfold Vis; decide +kernel, by decide +kernel, by decide +kernel⟩⟩
structure L__law_in_interval : Prop where
  _law_below : L2.Loc (defScope s__law_in_interval) "_law_below"
  _law_share : L2.Loc (defScope s__law_in_interval) "_law_share"
theorem l__law_in_interval : L__law_in_interval := ⟨by unfold L2.Loc; decide +kernel, by unfold L2.Loc; decide +kernel⟩
structure G__law_in_interval : Prop where
  _law_draw : GlOk (defScope s__law_in_interval) "_law_draw"
  _law_lowest : GlOk (defScope s__law_in_interval) "_law_lowest"
  _law_minus : GlOk (defScope s__law_in_interval) "_law_minus"
  _law_times : GlOk (defScope s__law_in_interval) "_law_times"
  _law_plus : GlOk (defScope s__law_in_interval) "_law_plus"
theorem g__law_in_interval : G__law_in_interval := ⟨⟨by decide +kernel, by decide +kernel, by decide +kernel⟩, ⟨by decide +kernel, by decide +kernel, by decide +kernel⟩, ⟨by decide +kernel, by decide +kernel, by decide +kernel⟩, ⟨by decide +kernel, by decide +kernel, by decide +kernel⟩, ⟨by decide +kernel, by decide +kernel, by decide +kernel⟩⟩
def b__law_in_interval : DM Fl := sSeq (sSet 3 (dOp2 addD (dC (.int 1)) (dCall 2 [] m__law_draw (aIo 0 (aCons (dVar 2) (aNil)))))) (sSeq (sSet 4 (dCall 2 [] m__law_lowest (aCons (dCall 2 [] m__law_draw (aIo 0 (aCons (dOp2 addD (dVar 3) (dC (.int 1))) (aNil)))) (aCons (dVar 3) (aNil))))) (sRet (dCall 2 [] m__law_plus (aCons (dOp2 ixD (dVar 1) (dC (.int 0))) (aCons (dCall 2 [] m__law_times (aCons (dVar 4) (aCons (dCall 2 [] m__law_minus (aCons (dOp2 ixD (dVar 1) (dC (.int 1))) (aCons (dOp2 ixD (dVar 1) (dC (.int 0))) (aNil)))) (aNil)))) (aNil))))))
def m__law_in_interval : SE → R RV := mFn n__law_in_interval.length b__law_in_interval
theorem d__law_in_interval {P : Program} {w : World} {base : Heap} {M : Mx} (T : Tx M w) (C__law_draw : Cal P w base M "_law_draw" 1 2 m__law_draw) (C__law_lowest : Cal P w base M "_law_lowest" 1 2 m__law_lowest) (C__law_plus : Cal P w base M "_law_plus" 2 2 m__law_plus) (C__law_times : Cal P w base M "_law_times" 2 2 m__law_times) (C__law_minus : Cal P w base M "_law_minus" 2 2 m__law_minus) {X : Cx} {W : DL.WX} (C : CxF P w base M n__law_in_interval (defScope s__law_in_interval) 2 X W) : DSs X M W (defBody s__law_in_interval) b__law_in_interval :=
  (dss_cons (ds_v C.toCxD 3 (C.st l__law_in_interval._law_below) (de_add de_int (de_callC C.toCxD C__law_draw g__law_in_interval._law_draw (by decide) (da_v C.toCxD 0 v__law_in_interval._law_rng (da_cons (de_v C.toCxD 2 v__law_in_interval._law_parts) da_nil))) C.toCxD.hK)) (dss_cons (ds_v C.toCxD 4 (C.st l__law_in_interval._law_share) (de_callC C.toCxD C__law_lowest g__law_in_interval._law_lowest (by decide) (da_cons (de_callC C.toCxD C__law_draw g__law_in_interval._law_draw (by decide) (da_v C.toCxD 0 v__law_in_interval._law_rng (da_cons (de_add (de_v C.toCxD 3 v__law_in_interval._law_below) de_int C.toCxD.hK) da_nil))) (da_cons (de_v C.toCxD 3 v__law_in_interval._law_below) da_nil)))) (dss_one (ds_ret (de_callC C.toCxD C__law_plus g__law_in_interval._law_plus (by decide) (da_cons (de_ix (de_v C.toCxD 1 v__law_in_interval._law_ends_here) de_int (fun _ _ => rfl) C.toCxD.hK) (da_cons (de_callC C.toCxD C__law_times g__law_in_interval._law_times (by decide) (da_cons (de_v C.toCxD 4 v__law_in_interval._law_share) (da_cons (de_callC C.toCxD C__law_minus g__law_in_interval._law_minus (by decide) (da_cons (de_ix (de_v C.toCxD 1 v__law_in_interval._law_ends_here) de_int (fun _ _ => rfl) C.toCxD.hK) (da_cons (de_ix (de_v C.toCxD 1 v__law_in_interval._law_ends_here) de_int (fun _ _ => rfl) C.toCxD.hK) da_nil))) da_nil))) da_nil)))))))
theorem ok__law_in_interval {P : Program} {w : World} {base : Heap} {M : Mx} (T : Tx M w) (Dx : DefAt M "_law_in_interval" s__law_in_interval ["_law_rng", "_law_ends_here", "_law_parts"]) (C__law_draw : Cal P w base M "_law_draw" 1 2 m__law_draw) (C__law_lowest : Cal P w base M "_law_lowest" 1 2 m__law_lowest) (C__law_plus : Cal P w base M "_law_plus" 2 2 m__law_plus) (C__law_times : Cal P w base M "_law_times" 2 2 m__law_times) (C__law_minus : Cal P w base M "_law_minus" 2 2 m__law_minus) : FnOk P w M.K M.mg base (L2.CX P w) 3 Dx.f Dx.fd ["_law_rng", "_law_ends_here", "_law_parts"] (spD M 3 m__law_in_interval) := by
  have h : ∀ (cdv : Value) (A : Around) (outer : List Env) (s : Shared) (H : Hp) (E : XK), Room 2 (A.deeper (envOfC "_law_in_interval" (defScope s__law_in_interval) s.heap.objs.size Dx.f cdv)) → DSs (cxOf (L2.CX P w) P w M.K M.mg base n__law_in_interval "_law_in_interval" (defScope s__law_in_interval) Dx.f cdv A outer s H E) M (fun cls d _ H' => E cls d H') (defBody s__law_in_interval) b__law_in_interval := fun cdv A outer s H E hr => d__law_in_interval T C__law_draw C__law_lowest C__law_plus C__law_times C__law_minus (cxF_of sc__law_in_interval hr)
  exact fn_D Dx.fu sc__law_in_interval h
def cal__law_in_interval {P : Program} {w : World} {base : Heap} {M : Mx} (T : Tx M w) (Dx : DefAt M "_law_in_interval" s__law_in_interval ["_law_rng", "_law_ends_here", "_law_parts"]) (C__law_draw : Cal P w base M "_law_draw" 1 2 m__law_draw) (C__law_lowest : Cal P w base M "_law_lowest" 1 2 m__law_lowest) (C__law_plus : Cal P w base M "_law_plus" 2 2 m__law_plus) (C__law_times : Cal P w base M "_law_times" 2 2 m__law_times) (C__law_minus : Cal P w base M "_law_minus" 2 2 m__law_minus) : Cal P w base M "_law_in_interval" 3 3 m__law_in_interval := Dx.cal (ok__law_in_interval (P := P) (base := base) T Dx C__law_draw C__law_lowest C__law_plus C__law_times C__law_minus)
abbrev s__law_less : Stmt := topS 36
abbrev n__law_less : List Str := ["_law_one", "_law_other"]
theorem sc__law_less : FnScope n__law_less ["_law_one", "_law_other"] (defScope s__law_less) := ⟨rfl, rfl, rfl, by decide +kernel, rfl, by decide +kernel, by decide +kernel⟩
structure V__law_less : Prop where
  _law_one : NameOk (defScope s__law_less) "_law_one"
  _law_other : NameOk (defScope s__law_less) "_law_other"
theorem v__law_less : V__law_less := ⟨⟨by unfold Vis; decide +kernel, by decide +kernel, by decide +kernel⟩, ⟨by unfold Vis; decide +kernel, by decide +kernel, by decide +kernel⟩⟩
def b__law_less : DM Fl := sRet (dOp2 ltD (dOp2 mulD (dOp2 ixD (dVar 0) (dC (.int 0))) (dOp2 ixD (dVar 1) (dC (.int 1)))) (dOp2 mulD (dOp2 ixD (dVar 1) (dC (.int 0))) (dOp2 ixD (dVar 0) (dC (.int 1)))))
def m__law_less : SE → R RV := mFn n__law_less.length b__law_less
theorem d__law_less {P : Program} {w : World} {base : Heap} {M : Mx} (T : Tx M w)  {X : Cx} {W : DL.WX} (C : CxF P w base M n__law_less (defScope s__law_less) 0 X W) : DSs X M W (defBody s__law_less) b__law_less :=
  (dss_one (ds_ret (de_lt (de_mul (de_ix (de_v C.toCxD 0 v__law_less._law_one) de_int (fun _ _ => rfl) C.toCxD.hK) (de_ix (de_v C.toCxD 1 v__law_less._law_other) de_int (fun _ _ => rfl) C.toCxD.hK)) (de_mul (de_ix (de_v C.toCxD 1 v__law_less._law_other) de_int (fun _ _ => rfl) C.toCxD.hK) (de_ix (de_v C.toCxD 0 v__law_less._law_one) de_int (fun _ _ => rfl) C.toCxD.hK)))))
theorem ok__law_less {P : Program} {w : World} {base : Heap} {M : Mx} (T : Tx M w) (Dx : DefAt M "_law_less" s__law_less ["_law_one", "_law_other"])  : FnOk P w M.K M.mg base (L2.CX P w) 1 Dx.f Dx.fd ["_law_one", "_law_other"] (spD M 2 m__law_less) := by
  have h : ∀ (cdv : Value) (A : Around) (outer : List Env) (s : Shared) (H : Hp) (E : XK), Room 0 (A.deeper (envOfC "_law_less" (defScope s__law_less) s.heap.objs.size Dx.f cdv)) → DSs (cxOf (L2.CX P w) P w M.K M.mg base n__law_less "_law_less" (defScope s__law_less) Dx.f cdv A outer s H E) M (fun cls d _ H' => E cls d H') (defBody s__law_less) b__law_less := fun cdv A outer s H E hr => d__law_less T  (cxF_of sc__law_less hr)
  exact fn_D Dx.fu sc__law_less h
def cal__law_less {P : Program} {w : World} {base : Heap} {M : Mx} (T : Tx M w) (Dx : DefAt M "_law_less" s__law_less ["_law_one", "_law_other"])  : Cal P w base M "_law_less" 1 2 m__law_less := Dx.cal (ok__law_less (P := P) (base := base) T Dx )
abbrev s__law_inside : Stmt := topS 37
abbrev n__law_inside : List Str := ["_law_low", "_law_number", "_law_high"]
theorem sc__law_inside : FnScope n__law_inside ["_law_low", "_law_number", "_law_high"] (defScope s__law_inside) := ⟨rfl, rfl, rfl, by decide +kernel, rfl, by decide +kernel, by decide +kernel⟩
structure V__law_inside : Prop where
  _law_low : NameOk (defScope s__law_inside) "_law_low"
  _law_number : NameOk (defScope s__law_inside) "_law_number"
  _law_high : NameOk (defScope s__law_inside) "_law_high"
theorem v__law_inside : V__law_inside := ⟨⟨by unfold Vis; decide +kernel, by decide +kernel, by decide +kernel⟩, ⟨by unfold Vis; decide +kernel, by decide +kernel, by decide +kernel⟩, ⟨by unfold Vis; decide +kernel, by decide +kernel, by decide +kernel⟩⟩
structure G__law_inside : Prop where
  _law_less : GlOk (defScope s__law_inside) "_law_less"
theorem g__law_inside : G__law_inside := ⟨⟨by decide +kernel, by decide +kernel, by decide +kernel⟩⟩
def b__law_inside : DM Fl := sRet (dAnd (dNot (dCall 2 [] m__law_less (aCons (dVar 1) (aCons (dVar 0) (aNil))))) (dNot (dCall 2 [] m__law_less (aCons (dVar 2) (aCons (dVar 1) (aNil))))))
def m__law_inside : SE → R RV := mFn n__law_inside.length b__law_inside
theorem d__law_inside {P : Program} {w : World} {base : Heap} {M : Mx} (T : Tx M w) (C__law_less : Cal P w base M "_law_less" 1 2 m__law_less) {X : Cx} {W : DL.WX} (C : CxF P w base M n__law_inside (defScope s__law_inside) 1 X W) : DSs X M W (defBody s__law_inside) b__law_inside :=
  (dss_one (ds_ret (de_and (de_not (de_callC C.toCxD C__law_less g__law_inside._law_less (by decide) (da_cons (de_v C.toCxD 1 v__law_inside._law_number) (da_cons (de_v C.toCxD 0 v__law_inside._law_low) da_nil)))) (de_one (de_not (de_callC C.toCxD C__law_less g__law_inside._law_less (by decide) (da_cons (de_v C.toCxD 2 v__law_inside._law_high) (da_cons (de_v C.toCxD 1 v__law_inside._law_number) da_nil))))))))
theorem ok__law_inside {P : Program} {w : World} {base : Heap} {M : Mx} (T : Tx M w) (Dx : DefAt M "_law_inside" s__law_inside ["_law_low", "_law_number", "_law_high"]) (C__law_less : Cal P w base M "_law_less" 1 2 m__law_less) : FnOk P w M.K M.mg base (L2.CX P w) 2 Dx.f Dx.fd ["_law_low", "_law_number", "_law_high"] (spD M 3 m__law_inside) := by
  have h : ∀ (cdv : Value) (A : Around) (outer : List Env) (s : Shared) (H : Hp) (E : XK), Room 1 (A.deeper (envOfC "_law_inside" (defScope s__law_inside) s.heap.objs.size Dx.f cdv)) → DSs (cxOf (L2.CX P w) P w M.K M.mg base n__law_inside "_law_inside" (defScope s__law_inside) Dx.f cdv A outer s H E) M (fun cls d _ H' => E cls d H') (defBody s__law_inside) b__law_inside := fun cdv A outer s H E hr => d__law_inside T C__law_less (cxF_of sc__law_inside hr)
  exact fn_D Dx.fu sc__law_inside h
def cal__law_inside {P : Program} {w : World} {base : Heap} {M : Mx} (T : Tx M w) (Dx : DefAt M "_law_inside" s__law_inside ["_law_low", "_law_number", "_law_high"]) (C__law_less : Cal P w base M "_law_less" 1 2 m__law_less) : Cal P w base M "_law_inside" 2 3 m__law_inside := Dx.cal (ok__law_inside (P := P) (base := base) T Dx C__law_less)
abbrev s__law_same : Stmt := topS 28
abbrev n__law_same : List Str := ["_law_found", "_law_due", "_law_one", "_law_other"]
theorem sc__law_same : FnScope n__law_same ["_law_found", "_law_due"] (defScope s__law_same) := ⟨rfl, rfl, rfl, by decide +kernel, rfl, by decide +kernel, by decide +kernel⟩
structure V__law_same : Prop where
  _law_due : NameOk (defScope s__law_same) "_law_due"
  _law_found : NameOk (defScope s__law_same) "_law_found"
theorem v__law_same : V__law_same := ⟨⟨by unfold Vis; decide +kernel, by decide +kernel, by decide +kernel⟩, ⟨by unfold Vis; decide +kernel, by decide +kernel, by decide +kernel⟩⟩
structure G__law_same : Prop where
  isinstance : GlOk (defScope s__law_same) "isinstance"
  list : GlOk (defScope s__law_same) "list"
  tuple : GlOk (defScope s__law_same) "tuple"
  len : GlOk (defScope s__law_same) "len"
  zip : GlOk (defScope s__law_same) "zip"
  all : GlOk (defScope s__law_same) "all"
  bool : GlOk (defScope s__law_same) "bool"
  int : GlOk (defScope s__law_same) "int"
  str : GlOk (defScope s__law_same) "str"
theorem g__law_same : G__law_same := ⟨⟨by decide +kernel, by decide +kernel, by decide +kernel⟩, ⟨by decide +kernel, by decide +kernel, by decide +kernel⟩, ⟨by decide +kernel, by decide +kernel, by decide +kernel⟩, ⟨by decide +kernel, by decide +kernel, by decide +kernel⟩, ⟨by decide +kernel, by decide +kernel, by decide +kernel⟩, ⟨by decide +kernel, by decide +kernel, by decide +kernel⟩, ⟨by decide +kernel, by decide +kernel, by decide +kernel⟩, ⟨by decide +kernel, by decide +kernel, by decide +kernel⟩, ⟨by decide +kernel, by decide +kernel, by decide +kernel⟩⟩
def b__law_same (m : SE → R RV) : DM Fl := sSeq (sIf (dOrT (fun ρ => (dOp2 (isND false) (dVar 1) (dC .non) ρ).bind asB) (fun ρ => (dOp2 (isND false) (dVar 0) (dC .non) ρ).bind asB)) (sRet (dAnd (dOp2 (isND false) (dVar 0) (dC .non)) (dOp2 (isND false) (dVar 1) (dC .non)))) (sPass)) (sSeq (sIf (fun ρ => ((dOp1 (isiD2 "list" "tuple") (dVar 1)) ρ).bind asB) (sSeq (sIf (dOrT (fun ρ => (dOp2 neD (dOp1 (isiD "list") (dVar 0)) (dOp1 (isiD "list") (dVar 1)) ρ).bind asB) (fun ρ => (dOp2 neD (dOp1 (isiD "tuple") (dVar 0)) (dOp1 (isiD "tuple") (dVar 1)) ρ).bind asB)) (sRet (dC (.bl false))) (sPass)) (sRet (dAnd (dOp2 eqD (dCb gLen (vCons (dVar 0) (vNil))) (dCb gLen (vCons (dVar 1) (vNil)))) (dCb gAll (vCons (dLc [2, 3] (iZip2 (aCons (dVar 0) (aCons (dVar 1) (aNil)))) (tgTup 2 (tgCons (tgName 2) (tgCons (tgName 3) (tgNil)))) (tYesD) (dCall 2 [] m (aCons (dVar 2) (aCons (dVar 3) (aNil))))) (vNil)))))) (sPass)) (sSeq (sIf (dOrT (fun ρ => (dOp2 neD (dOp1 (isiD "bool") (dVar 0)) (dOp1 (isiD "bool") (dVar 1)) ρ).bind asB) (fun ρ => (dOp2 neD (dOp1 (isiD "int") (dVar 0)) (dOp1 (isiD "int") (dVar 1)) ρ).bind asB)) (sRet (dC (.bl false))) (sPass)) (sRet (dAnd (dOp2 eqD (dOp1 (isiD "str") (dVar 0)) (dOp1 (isiD "str") (dVar 1))) (dOp2 eqD (dVar 0) (dVar 1))))))
def m__law_same : Nat → SE → R RV
  | 0 => mBad
  | n + 1 => mFn n__law_same.length (b__law_same (m__law_same n))
theorem d__law_same {P : Program} {w : World} {base : Heap} {M : Mx} (T : Tx M w)  (k : Nat) (hk : 0 ≤ k) (m : SE → R RV) (C__law_same : Cal P w base M "_law_same" k 2 m) {X : Cx} {W : DL.WX} (C : CxF P w base M n__law_same (defScope s__law_same) k X W) : DSs X M W (defBody s__law_same) (b__law_same m) :=
  (dss_cons (ds_if (dt_w (dw_or (dt_isN (de_v C.toCxD 1 v__law_same._law_due) de_non) (dw_or1 (dt_isN (de_v C.toCxD 0 v__law_same._law_found) de_non)))) (dss_one (ds_ret (de_and (de_isN (de_v C.toCxD 0 v__law_same._law_found) de_non) (de_one (de_isN (de_v C.toCxD 1 v__law_same._law_due) de_non))))) dss_nil) (dss_cons (ds_if (dt_val (de_isi2F C.toCxD g__law_same.isinstance T.z_isinstance g__law_same.list T.z_list boot_list kit_list g__law_same.tuple T.z_tuple boot_tuple kit_tuple (de_v C.toCxD 1 v__law_same._law_due))) (dss_cons (ds_if (dt_w (dw_or (dt_ne (de_isiF C.toCxD g__law_same.isinstance T.z_isinstance g__law_same.list T.z_list boot_list kit_list (de_v C.toCxD 0 v__law_same._law_found)) (de_isiF C.toCxD g__law_same.isinstance T.z_isinstance g__law_same.list T.z_list boot_list kit_list (de_v C.toCxD 1 v__law_same._law_due)) C.toCxD.u64 C.toCxD.hK) (dw_or1 (dt_ne (de_isiF C.toCxD g__law_same.isinstance T.z_isinstance g__law_same.tuple T.z_tuple boot_tuple kit_tuple (de_v C.toCxD 0 v__law_same._law_found)) (de_isiF C.toCxD g__law_same.isinstance T.z_isinstance g__law_same.tuple T.z_tuple boot_tuple kit_tuple (de_v C.toCxD 1 v__law_same._law_due)) C.toCxD.u64 C.toCxD.hK)))) (dss_one (ds_ret de_bl)) dss_nil) (dss_one (ds_ret (de_and (de_eq (de_lenF C.toCxD g__law_same.len T.z_len (dv_cons (de_v C.toCxD 0 v__law_same._law_found) dv_nil)) (de_lenF C.toCxD g__law_same.len T.z_len (dv_cons (de_v C.toCxD 1 v__law_same._law_due) dv_nil)) C.toCxD.u64 C.toCxD.hK) (de_one (de_allF C.toCxD g__law_same.all T.z_all (dv_cons (de_lcF C.toCxD [("_law_one", 2), ("_law_other", 3)] (blkOk_by (by decide +kernel)) (tgTup_ex (tgCons_ex tgName_ex (tgCons_ex tgName_ex tgNil_ex))) (di_zipF C.toCxD g__law_same.zip T.z_zip (da_cons (de_v C.toCxD 0 v__law_same._law_found) (da_cons (de_v C.toCxD 1 v__law_same._law_due) da_nil))) (fun _ _ _ _ _ => (dg_tup (C.toCxD.blk rfl _ _ _ _ _).cm (dgs_cons (dg_v (C.toCxD.blk rfl _ _ _ _ _) 2 ((C.toCxD.blk rfl _ _ _ _ _).stl (by decide +kernel))) (dgs_cons (dg_v (C.toCxD.blk rfl _ _ _ _ _) 3 ((C.toCxD.blk rfl _ _ _ _ _).stl (by decide +kernel))) dgs_nil)) rfl rfl (C.toCxD.blk rfl _ _ _ _ _).hK)) (fun _ _ _ _ _ => dts_nil) (fun _ _ _ _ _ => (de_callC (C.toCxD.blk rfl _ _ _ _ _) C__law_same ⟨by decide +kernel, by decide +kernel, by decide +kernel⟩ (by omega) (da_cons (de_v (C.toCxD.blk rfl _ _ _ _ _) 2 ⟨by unfold Vis; decide +kernel, by decide +kernel, by decide +kernel⟩) (da_cons (de_v (C.toCxD.blk rfl _ _ _ _ _) 3 ⟨by unfold Vis; decide +kernel, by decide +kernel, by decide +kernel⟩) da_nil))))) dv_nil))))))) dss_nil) (dss_cons (ds_if (dt_w (dw_or (dt_ne (de_isiF C.toCxD g__law_same.isinstance T.z_isinstance g__law_same.bool T.z_bool boot_bool kit_bool (de_v C.toCxD 0 v__law_same._law_found)) (de_isiF C.toCxD g__law_same.isinstance T.z_isinstance g__law_same.bool T.z_bool boot_bool kit_bool (de_v C.toCxD 1 v__law_same._law_due)) C.toCxD.u64 C.toCxD.hK) (dw_or1 (dt_ne (de_isiF C.toCxD g__law_same.isinstance T.z_isinstance g__law_same.int T.z_int boot_int kit_int (de_v C.toCxD 0 v__law_same._law_found)) (de_isiF C.toCxD g__law_same.isinstance T.z_isinstance g__law_same.int T.z_int boot_int kit_int (de_v C.toCxD 1 v__law_same._law_due)) C.toCxD.u64 C.toCxD.hK)))) (dss_one (ds_ret de_bl)) dss_nil) (dss_one (ds_ret (de_and (de_eq (de_isiF C.toCxD g__law_same.isinstance T.z_isinstance g__law_same.str T.z_str boot_str kit_str (de_v C.toCxD 0 v__law_same._law_found)) (de_isiF C.toCxD g__law_same.isinstance T.z_isinstance g__law_same.str T.z_str boot_str kit_str (de_v C.toCxD 1 v__law_same._law_due)) C.toCxD.u64 C.toCxD.hK) (de_one (de_eq (de_v C.toCxD 0 v__law_same._law_found) (de_v C.toCxD 1 v__law_same._law_due) C.toCxD.u64 C.toCxD.hK))))))))
theorem ok__law_same {P : Program} {w : World} {base : Heap} {M : Mx} (T : Tx M w) (Dx : DefAt M "_law_same" s__law_same ["_law_found", "_law_due"])  : ∀ n : Nat, FnOk P w M.K M.mg base (L2.CX P w) (0 + n) Dx.f Dx.fd ["_law_found", "_law_due"] (spD M 2 (m__law_same n))
  | 0 => fn_bad
  | n + 1 => by
    have ih := ok__law_same (P := P) (base := base) T Dx  n
    have h : ∀ (cdv : Value) (A : Around) (outer : List Env) (s : Shared) (H : Hp) (E : XK), Room (0 + n) (A.deeper (envOfC "_law_same" (defScope s__law_same) s.heap.objs.size Dx.f cdv)) → DSs (cxOf (L2.CX P w) P w M.K M.mg base n__law_same "_law_same" (defScope s__law_same) Dx.f cdv A outer s H E) M (fun cls d _ H' => E cls d H') (defBody s__law_same) (b__law_same (m__law_same n)) := fun cdv A outer s H E hr => d__law_same T  (0 + n) (by omega) (m__law_same n) (Dx.cal ih) (cxF_of sc__law_same hr)
    exact fn_D Dx.fu sc__law_same h
def cal__law_same {P : Program} {w : World} {base : Heap} {M : Mx} (T : Tx M w) (Dx : DefAt M "_law_same" s__law_same ["_law_found", "_law_due"])  : Cal P w base M "_law_same" 8 2 (m__law_same 8) := Dx.cal (ok__law_same (P := P) (base := base) T Dx  8)
abbrev s_is_less : Stmt := topS 15
abbrev n_is_less : List Str := ["one", "other"]
theorem sc_is_less : FnScope n_is_less ["one", "other"] (defScope s_is_less) := ⟨rfl, rfl, rfl, by decide +kernel, rfl, by decide +kernel, by decide +kernel⟩
structure V_is_less : Prop where
  one : NameOk (defScope s_is_less) "one"
  other : NameOk (defScope s_is_less) "other"
theorem v_is_less : V_is_less := ⟨⟨by unfold Vis; decide +kernel, by decide +kernel, by decide +kernel⟩, ⟨by unfold Vis; decide +kernel, by decide +kernel, by decide +kernel⟩⟩
def b_is_less : DM Fl := sRet (dOp2 ltD (dOp2 mulD (dOp2 ixD (dVar 0) (dC (.int 0))) (dOp2 ixD (dVar 1) (dC (.int 1)))) (dOp2 mulD (dOp2 ixD (dVar 1) (dC (.int 0))) (dOp2 ixD (dVar 0) (dC (.int 1)))))
def m_is_less : SE → R RV := mFn n_is_less.length b_is_less
theorem d_is_less {P : Program} {w : World} {base : Heap} {M : Mx} (T : Tx M w)  {X : Cx} {W : DL.WX} (C : CxF P w base M n_is_less (defScope s_is_less) 0 X W) : DSs X M W (defBody s_is_less) b_is_less :=
  (dss_one (ds_ret (de_lt (de_mul (de_ix (de_v C.toCxD 0 v_is_less.one) de_int (fun _ _ => rfl) C.toCxD.hK) (de_ix (de_v C.toCxD 1 v_is_less.other) de_int (fun _ _ => rfl) C.toCxD.hK)) (de_mul (de_ix (de_v C.toCxD 1 v_is_less.other) de_int (fun _ _ => rfl) C.toCxD.hK) (de_ix (de_v C.toCxD 0 v_is_less.one) de_int (fun _ _ => rfl) C.toCxD.hK)))))
theorem ok_is_less {P : Program} {w : World} {base : Heap} {M : Mx} (T : Tx M w) (Dx : DefAt M "is_less" s_is_less ["one", "other"])  : FnOk P w M.K M.mg base (L2.CX P w) 1 Dx.f Dx.fd ["one", "other"] (spD M 2 m_is_less) := by
  have h : ∀ (cdv : Value) (A : Around) (outer : List Env) (s : Shared) (H : Hp) (E : XK), Room 0 (A.deeper (envOfC "is_less" (defScope s_is_less) s.heap.objs.size Dx.f cdv)) → DSs (cxOf (L2.CX P w) P w M.K M.mg base n_is_less "is_less" (defScope s_is_less) Dx.f cdv A outer s H E) M (fun cls d _ H' => E cls d H') (defBody s_is_less) b_is_less := fun cdv A outer s H E hr => d_is_less T  (cxF_of sc_is_less hr)
  exact fn_D Dx.fu sc_is_less h
def cal_is_less {P : Program} {w : World} {base : Heap} {M : Mx} (T : Tx M w) (Dx : DefAt M "is_less" s_is_less ["one", "other"])  : Cal P w base M "is_less" 1 2 m_is_less := Dx.cal (ok_is_less (P := P) (base := base) T Dx )
abbrev s_is_between : Stmt := topS 16
abbrev n_is_between : List Str := ["low", "value", "high"]
theorem sc_is_between : FnScope n_is_between ["low", "value", "high"] (defScope s_is_between) := ⟨rfl, rfl, rfl, by decide +kernel, rfl, by decide +kernel, by decide +kernel⟩
structure V_is_between : Prop where
  low : NameOk (defScope s_is_between) "low"
  value : NameOk (defScope s_is_between) "value"
  high : NameOk (defScope s_is_between) "high"
theorem v_is_between : V_is_between := ⟨⟨by unfold Vis; decide +kernel, by decide +kernel, by decide +kernel⟩, ⟨by unfold Vis; decide +kernel, by decide +kernel, by decide +kernel⟩, ⟨by unfold Vis; decide +kernel, by decide +kernel, by decide +kernel⟩⟩
structure G_is_between : Prop where
  is_less : GlOk (defScope s_is_between) "is_less"
theorem g_is_between : G_is_between := ⟨⟨by decide +kernel, by decide +kernel, by decide +kernel⟩⟩
def b_is_between : DM Fl := sRet (dAnd (dNot (dCall 2 [] m_is_less (aCons (dVar 1) (aCons (dVar 0) (aNil))))) (dNot (dCall 2 [] m_is_less (aCons (dVar 2) (aCons (dVar 1) (aNil))))))
def m_is_between : SE → R RV := mFn n_is_between.length b_is_between
theorem d_is_between {P : Program} {w : World} {base : Heap} {M : Mx} (T : Tx M w) (C_is_less : Cal P w base M "is_less" 1 2 m_is_less) {X : Cx} {W : DL.WX} (C : CxF P w base M n_is_between (defScope s_is_between) 1 X W) : DSs X M W (defBody s_is_between) b_is_between :=
  (dss_one (ds_ret (de_and (de_not (de_callC C.toCxD C_is_less g_is_between.is_less (by decide) (da_cons (de_v C.toCxD 1 v_is_between.value) (da_cons (de_v C.toCxD 0 v_is_between.low) da_nil)))) (de_one (de_not (de_callC C.toCxD C_is_less g_is_between.is_less (by decide) (da_cons (de_v C.toCxD 2 v_is_between.high) (da_cons (de_v C.toCxD 1 v_is_between.value) da_nil))))))))
theorem ok_is_between {P : Program} {w : World} {base : Heap} {M : Mx} (T : Tx M w) (Dx : DefAt M "is_between" s_is_between ["low", "value", "high"]) (C_is_less : Cal P w base M "is_less" 1 2 m_is_less) : FnOk P w M.K M.mg base (L2.CX P w) 2 Dx.f Dx.fd ["low", "value", "high"] (spD M 3 m_is_between) := by
  have h : ∀ (cdv : Value) (A : Around) (outer : List Env) (s : Shared) (H : Hp) (E : XK), Room 1 (A.deeper (envOfC "is_between" (defScope s_is_between) s.heap.objs.size Dx.f cdv)) → DSs (cxOf (L2.CX P w) P w M.K M.mg base n_is_between "is_between" (defScope s_is_between) Dx.f cdv A outer s H E) M (fun cls d _ H' => E cls d H') (defBody s_is_between) b_is_between := fun cdv A outer s H E hr => d_is_between T C_is_less (cxF_of sc_is_between hr)
  exact fn_D Dx.fu sc_is_between h
def cal_is_between {P : Program} {w : World} {base : Heap} {M : Mx} (T : Tx M w) (Dx : DefAt M "is_between" s_is_between ["low", "value", "high"]) (C_is_less : Cal P w base M "is_less" 1 2 m_is_less) : Cal P w base M "is_between" 2 3 m_is_between := Dx.cal (ok_is_between (P := P) (base := base) T Dx C_is_less)
abbrev s_common_divisor : Stmt := topS 10
abbrev n_common_divisor : List Str := ["one", "other"]
theorem sc_common_divisor : FnScope n_common_divisor ["one", "other"] (defScope s_common_divisor) := ⟨rfl, rfl, rfl, by decide +kernel, rfl, by decide +kernel, by decide +kernel⟩
structure V_common_divisor : Prop where
  other : NameOk (defScope s_common_divisor) "other"
  one : NameOk (defScope s_common_divisor) "one"
theorem v_common_divisor : V_common_divisor := ⟨⟨by unfold Vis; decide +kernel, by decide +kernel, by decide +kernel⟩, ⟨by unfold Vis; decide +kernel, by decide +kernel, by decide +kernel⟩⟩
def b_common_divisor : DM Fl := sSeq (sWhile (fun ρ => (dOp2 neD (dVar 1) (dC (.int 0)) ρ).bind asB) (sPar 0 1 (aCons (dVar 1) (aCons (dOp2 modD (dVar 0) (dVar 1)) (aNil))))) (sRet (dVar 0))
def m_common_divisor : SE → R RV := mFn n_common_divisor.length b_common_divisor
theorem d_common_divisor {P : Program} {w : World} {base : Heap} {M : Mx} (T : Tx M w)  {X : Cx} {W : DL.WX} (C : CxF P w base M n_common_divisor (defScope s_common_divisor) 0 X W) : DSs X M W (defBody s_common_divisor) b_common_divisor :=
  (dss_cons (ds_while C.ps (dt_ne (de_v C.toCxD 1 v_common_divisor.other) de_int C.toCxD.u64 C.toCxD.hK) (dss_one (ds_parv C.toCxD 0 1 (by decide +kernel) (by decide +kernel) rfl (by decide +kernel) (da_cons (de_v C.toCxD 1 v_common_divisor.other) (da_cons (de_mod (de_v C.toCxD 0 v_common_divisor.one) (de_v C.toCxD 1 v_common_divisor.other)) da_nil))))) (dss_one (ds_ret (de_v C.toCxD 0 v_common_divisor.one))))
theorem ok_common_divisor {P : Program} {w : World} {base : Heap} {M : Mx} (T : Tx M w) (Dx : DefAt M "common_divisor" s_common_divisor ["one", "other"])  : FnOk P w M.K M.mg base (L2.CX P w) 1 Dx.f Dx.fd ["one", "other"] (spD M 2 m_common_divisor) := by
  have h : ∀ (cdv : Value) (A : Around) (outer : List Env) (s : Shared) (H : Hp) (E : XK), Room 0 (A.deeper (envOfC "common_divisor" (defScope s_common_divisor) s.heap.objs.size Dx.f cdv)) → DSs (cxOf (L2.CX P w) P w M.K M.mg base n_common_divisor "common_divisor" (defScope s_common_divisor) Dx.f cdv A outer s H E) M (fun cls d _ H' => E cls d H') (defBody s_common_divisor) b_common_divisor := fun cdv A outer s H E hr => d_common_divisor T  (cxF_of sc_common_divisor hr)
  exact fn_D Dx.fu sc_common_divisor h
def cal_common_divisor {P : Program} {w : World} {base : Heap} {M : Mx} (T : Tx M w) (Dx : DefAt M "common_divisor" s_common_divisor ["one", "other"])  : Cal P w base M "common_divisor" 1 2 m_common_divisor := Dx.cal (ok_common_divisor (P := P) (base := base) T Dx )
abbrev s_fraction : Stmt := topS 11
abbrev n_fraction : List Str := ["numerator", "denominator", "divisor"]
theorem sc_fraction : FnScope n_fraction ["numerator", "denominator"] (defScope s_fraction) := ⟨rfl, rfl, rfl, by decide +kernel, rfl, by decide +kernel, by decide +kernel⟩
structure V_fraction : Prop where
  denominator : NameOk (defScope s_fraction) "denominator"
  numerator : NameOk (defScope s_fraction) "numerator"
  divisor : NameOk (defScope s_fraction) "divisor"
theorem v_fraction : V_fraction := ⟨⟨by unfold Vis; decide +kernel, by decide +kernel, by decide +kernel⟩, ⟨by unfold Vis; decide +kernel, by decide +kernel, by decide +kernel⟩, ⟨by unfold Vis; decide +kernel, by decide +kernel, by decide +kernel⟩⟩
structure L_fraction : Prop where
  divisor : L2.Loc (defScope s_fraction) "divisor"
theorem l_fraction : L_fraction := ⟨by unfold L2.Loc; decide +kernel⟩
structure G_fraction : Prop where
  OutOfRange : GlOk (defScope s_fraction) "OutOfRange"
  abs : GlOk (defScope s_fraction) "abs"
  common_divisor : GlOk (defScope s_fraction) "common_divisor"
theorem g_fraction : G_fraction := ⟨⟨by decide +kernel, by decide +kernel, by decide +kernel⟩, ⟨by decide +kernel, by decide +kernel, by decide +kernel⟩, ⟨by decide +kernel, by decide +kernel, by decide +kernel⟩⟩
def b_fraction : DM Fl := sSeq (sIf (fun ρ => (dOp2 eqD (dVar 1) (dC (.int 0)) ρ).bind asB) (sRaise0 "OutOfRange" "OutOfRange") (sPass)) (sSeq (sIf (fun ρ => (dOp2 ltD (dVar 1) (dC (.int 0)) ρ).bind asB) (sPar 0 1 (aCons (dOp2 subD (dC (.int 0)) (dVar 0)) (aCons (dOp2 subD (dC (.int 0)) (dVar 1)) (aNil)))) (sPass)) (sSeq (sSet 2 (dCall 2 [] m_common_divisor (aCons (dCb gAbs (vCons (dVar 0) (vNil))) (aCons (dVar 1) (aNil))))) (sRet (dTup (aCons (dOp2 fdivD (dVar 0) (dVar 2)) (aCons (dOp2 fdivD (dVar 1) (dVar 2)) (aNil)))))))
def m_fraction : SE → R RV := mFn n_fraction.length b_fraction
theorem d_fraction {P : Program} {w : World} {base : Heap} {M : Mx} (T : Tx M w) (C_common_divisor : Cal P w base M "common_divisor" 1 2 m_common_divisor) {X : Cx} {W : DL.WX} (C : CxF P w base M n_fraction (defScope s_fraction) 2 X W) : DSs X M W (defBody s_fraction) b_fraction :=
  (dss_cons (ds_if (dt_eq (de_v C.toCxD 1 v_fraction.denominator) de_int C.toCxD.u64 C.toCxD.hK) (dss_one (ds_raise0 (k := 0) C.toCxD T.x_OutOfRange g_fraction.OutOfRange (by decide))) dss_nil) (dss_cons (ds_if (dt_lt (de_v C.toCxD 1 v_fraction.denominator) de_int) (dss_one (ds_parv C.toCxD 0 1 (by decide +kernel) (by decide +kernel) rfl (by decide +kernel) (da_cons (de_sub de_int (de_v C.toCxD 0 v_fraction.numerator)) (da_cons (de_sub de_int (de_v C.toCxD 1 v_fraction.denominator)) da_nil)))) dss_nil) (dss_cons (ds_v C.toCxD 2 (C.st l_fraction.divisor) (de_callC C.toCxD C_common_divisor g_fraction.common_divisor (by decide) (da_cons (de_absF C.toCxD g_fraction.abs T.z_abs (dv_cons (de_v C.toCxD 0 v_fraction.numerator) dv_nil)) (da_cons (de_v C.toCxD 1 v_fraction.denominator) da_nil)))) (dss_one (ds_ret (de_tup (da_cons (de_fdiv (de_v C.toCxD 0 v_fraction.numerator) (de_v C.toCxD 2 v_fraction.divisor)) (da_cons (de_fdiv (de_v C.toCxD 1 v_fraction.denominator) (de_v C.toCxD 2 v_fraction.divisor)) da_nil))))))))
theorem ok_fraction {P : Program} {w : World} {base : Heap} {M : Mx} (T : Tx M w) (Dx : DefAtD M "fraction" s_fraction ["numerator", "denominator"] [V.int 1]) (C_common_divisor : Cal P w base M "common_divisor" 1 2 m_common_divisor) : FnOk P w M.K M.mg base (L2.CX P w) 3 Dx.f Dx.fd ["numerator", "denominator"] (spD M 2 m_fraction) := by
  have h : ∀ (cdv : Value) (A : Around) (outer : List Env) (s : Shared) (H : Hp) (E : XK), Room 2 (A.deeper (envOfC "fraction" (defScope s_fraction) s.heap.objs.size Dx.f cdv)) → DSs (cxOf (L2.CX P w) P w M.K M.mg base n_fraction "fraction" (defScope s_fraction) Dx.f cdv A outer s H E) M (fun cls d _ H' => E cls d H') (defBody s_fraction) b_fraction := fun cdv A outer s H E hr => d_fraction T C_common_divisor (cxF_of sc_fraction hr)
  exact fn_DD Dx.fu sc_fraction h
def cal_fraction {P : Program} {w : World} {base : Heap} {M : Mx} (T : Tx M w) (Dx : DefAtD M "fraction" s_fraction ["numerator", "denominator"] [V.int 1]) (C_common_divisor : Cal P w base M "common_divisor" 1 2 m_common_divisor) : Cal P w base M "fraction" 3 2 m_fraction := Dx.cal (ok_fraction (P := P) (base := base) T Dx C_common_divisor)
abbrev s_DigitSet__high : Stmt := L2.inClass (topS 23) 5
abbrev n_DigitSet__high : List Str := ["self"]
theorem sc_DigitSet__high : FnScope n_DigitSet__high ["self"] (defScope s_DigitSet__high) := ⟨rfl, rfl, rfl, by decide +kernel, rfl, by decide +kernel, by decide +kernel⟩
structure V_DigitSet__high : Prop where
  self : NameOk (defScope s_DigitSet__high) "self"
theorem v_DigitSet__high : V_DigitSet__high := ⟨⟨by unfold Vis; decide +kernel, by decide +kernel, by decide +kernel⟩⟩
structure G_DigitSet__high : Prop where
  fraction : GlOk (defScope s_DigitSet__high) "fraction"
theorem g_DigitSet__high : G_DigitSet__high := ⟨⟨by decide +kernel, by decide +kernel, by decide +kernel⟩⟩
def b_DigitSet__high : DM Fl := sRet (dCall 2 [] m_fraction (aCons (dOp2 ixD (dOp1 (attrD "digits") (dVar 0)) (dOp1 negD (dC (.int 1)))) (aCons (dOp2 subD (dOp1 (attrD "base") (dVar 0)) (dC (.int 1))) (aNil))))
def m_DigitSet__high : SE → R RV := mFn n_DigitSet__high.length b_DigitSet__high
theorem d_DigitSet__high {P : Program} {w : World} {base : Heap} {M : Mx} (T : Tx M w) (C_fraction : Cal P w base M "fraction" 3 2 m_fraction) {X : Cx} {W : DL.WX} (C : CxF P w base M n_DigitSet__high (defScope s_DigitSet__high) 3 X W) : DSs X M W (defBody s_DigitSet__high) b_DigitSet__high :=
  (dss_one (ds_ret (de_callC C.toCxD C_fraction g_DigitSet__high.fraction (by decide) (da_cons (de_ix (de_attr C.toCxD.hK (de_v C.toCxD 0 v_DigitSet__high.self)) (de_neg de_int) (fun _ _ => rfl) C.toCxD.hK) (da_cons (de_sub (de_attr C.toCxD.hK (de_v C.toCxD 0 v_DigitSet__high.self)) de_int) da_nil)))))
theorem ok_DigitSet__high {P : Program} {w : World} {base : Heap} {M : Mx} (T : Tx M w) (Dx : MDefAt M "DigitSet" "high" "DigitSet.high" s_DigitSet__high ["self"]) (C_fraction : Cal P w base M "fraction" 3 2 m_fraction) : FnOk P w M.K M.mg base (L2.CX P w) 4 Dx.f Dx.fd ["self"] (spD M 1 m_DigitSet__high) := by
  have h : ∀ (cdv : Value) (A : Around) (outer : List Env) (s : Shared) (H : Hp) (E : XK), Room 3 (A.deeper (envOfC "DigitSet.high" (defScope s_DigitSet__high) s.heap.objs.size Dx.f cdv)) → DSs (cxOf (L2.CX P w) P w M.K M.mg base n_DigitSet__high "DigitSet.high" (defScope s_DigitSet__high) Dx.f cdv A outer s H E) M (fun cls d _ H' => E cls d H') (defBody s_DigitSet__high) b_DigitSet__high := fun cdv A outer s H E hr => d_DigitSet__high T C_fraction (cxF_of sc_DigitSet__high hr)
  exact fn_D Dx.fu sc_DigitSet__high h
def cal_DigitSet__high {P : Program} {w : World} {base : Heap} {M : Mx} (T : Tx M w) (Dx : MDefAt M "DigitSet" "high" "DigitSet.high" s_DigitSet__high ["self"]) (C_fraction : Cal P w base M "fraction" 3 2 m_fraction) : MCal P w base M "DigitSet" "high" 4 1 m_DigitSet__high := Dx.cal (ok_DigitSet__high (P := P) (base := base) T Dx C_fraction)
abbrev s_DigitSet__low : Stmt := L2.inClass (topS 23) 4
abbrev n_DigitSet__low : List Str := ["self"]
theorem sc_DigitSet__low : FnScope n_DigitSet__low ["self"] (defScope s_DigitSet__low) := ⟨rfl, rfl, rfl, by decide +kernel, rfl, by decide +kernel, by decide +kernel⟩
structure V_DigitSet__low : Prop where
  self : NameOk (defScope s_DigitSet__low) "self"
theorem v_DigitSet__low : V_DigitSet__low := ⟨⟨by unfold Vis; decide +kernel, by decide +kernel, by decide +kernel⟩⟩
structure G_DigitSet__low : Prop where
  fraction : GlOk (defScope s_DigitSet__low) "fraction"
theorem g_DigitSet__low : G_DigitSet__low := ⟨⟨by decide +kernel, by decide +kernel, by decide +kernel⟩⟩
def b_DigitSet__low : DM Fl := sRet (dCall 2 [] m_fraction (aCons (dOp2 ixD (dOp1 (attrD "digits") (dVar 0)) (dC (.int 0))) (aCons (dOp2 subD (dOp1 (attrD "base") (dVar 0)) (dC (.int 1))) (aNil))))
def m_DigitSet__low : SE → R RV := mFn n_DigitSet__low.length b_DigitSet__low
theorem d_DigitSet__low {P : Program} {w : World} {base : Heap} {M : Mx} (T : Tx M w) (C_fraction : Cal P w base M "fraction" 3 2 m_fraction) {X : Cx} {W : DL.WX} (C : CxF P w base M n_DigitSet__low (defScope s_DigitSet__low) 3 X W) : DSs X M W (defBody s_DigitSet__low) b_DigitSet__low :=
  (dss_one (ds_ret (de_callC C.toCxD C_fraction g_DigitSet__low.fraction (by decide) (da_cons (de_ix (de_attr C.toCxD.hK (de_v C.toCxD 0 v_DigitSet__low.self)) de_int (fun _ _ => rfl) C.toCxD.hK) (da_cons (de_sub (de_attr C.toCxD.hK (de_v C.toCxD 0 v_DigitSet__low.self)) de_int) da_nil)))))
theorem ok_DigitSet__low {P : Program} {w : World} {base : Heap} {M : Mx} (T : Tx M w) (Dx : MDefAt M "DigitSet" "low" "DigitSet.low" s_DigitSet__low ["self"]) (C_fraction : Cal P w base M "fraction" 3 2 m_fraction) : FnOk P w M.K M.mg base (L2.CX P w) 4 Dx.f Dx.fd ["self"] (spD M 1 m_DigitSet__low) := by
  have h : ∀ (cdv : Value) (A : Around) (outer : List Env) (s : Shared) (H : Hp) (E : XK), Room 3 (A.deeper (envOfC "DigitSet.low" (defScope s_DigitSet__low) s.heap.objs.size Dx.f cdv)) → DSs (cxOf (L2.CX P w) P w M.K M.mg base n_DigitSet__low "DigitSet.low" (defScope s_DigitSet__low) Dx.f cdv A outer s H E) M (fun cls d _ H' => E cls d H') (defBody s_DigitSet__low) b_DigitSet__low := fun cdv A outer s H E hr => d_DigitSet__low T C_fraction (cxF_of sc_DigitSet__low hr)
  exact fn_D Dx.fu sc_DigitSet__low h
def cal_DigitSet__low {P : Program} {w : World} {base : Heap} {M : Mx} (T : Tx M w) (Dx : MDefAt M "DigitSet" "low" "DigitSet.low" s_DigitSet__low ["self"]) (C_fraction : Cal P w base M "fraction" 3 2 m_fraction) : MCal P w base M "DigitSet" "low" 4 1 m_DigitSet__low := Dx.cal (ok_DigitSet__low (P := P) (base := base) T Dx C_fraction)
abbrev s_multiply : Stmt := topS 13
abbrev n_multiply : List Str := ["one", "other"]
theorem sc_multiply : FnScope n_multiply ["one", "other"] (defScope s_multiply) := ⟨rfl, rfl, rfl, by decide +kernel, rfl, by decide +kernel, by decide +kernel⟩
structure V_multiply : Prop where
  one : NameOk (defScope s_multiply) "one"
  other : NameOk (defScope s_multiply) "other"
theorem v_multiply : V_multiply := ⟨⟨by unfold Vis; decide +kernel, by decide +kernel, by decide +kernel⟩, ⟨by unfold Vis; decide +kernel, by decide +kernel, by decide +kernel⟩⟩
structure G_multiply : Prop where
  fraction : GlOk (defScope s_multiply) "fraction"
theorem g_multiply : G_multiply := ⟨⟨by decide +kernel, by decide +kernel, by decide +kernel⟩⟩
def b_multiply : DM Fl := sRet (dCall 2 [] m_fraction (aCons (dOp2 mulD (dOp2 ixD (dVar 0) (dC (.int 0))) (dOp2 ixD (dVar 1) (dC (.int 0)))) (aCons (dOp2 mulD (dOp2 ixD (dVar 0) (dC (.int 1))) (dOp2 ixD (dVar 1) (dC (.int 1)))) (aNil))))
def m_multiply : SE → R RV := mFn n_multiply.length b_multiply
theorem d_multiply {P : Program} {w : World} {base : Heap} {M : Mx} (T : Tx M w) (C_fraction : Cal P w base M "fraction" 3 2 m_fraction) {X : Cx} {W : DL.WX} (C : CxF P w base M n_multiply (defScope s_multiply) 3 X W) : DSs X M W (defBody s_multiply) b_multiply :=
  (dss_one (ds_ret (de_callC C.toCxD C_fraction g_multiply.fraction (by decide) (da_cons (de_mul (de_ix (de_v C.toCxD 0 v_multiply.one) de_int (fun _ _ => rfl) C.toCxD.hK) (de_ix (de_v C.toCxD 1 v_multiply.other) de_int (fun _ _ => rfl) C.toCxD.hK)) (da_cons (de_mul (de_ix (de_v C.toCxD 0 v_multiply.one) de_int (fun _ _ => rfl) C.toCxD.hK) (de_ix (de_v C.toCxD 1 v_multiply.other) de_int (fun _ _ => rfl) C.toCxD.hK)) da_nil)))))
theorem ok_multiply {P : Program} {w : World} {base : Heap} {M : Mx} (T : Tx M w) (Dx : DefAt M "multiply" s_multiply ["one", "other"]) (C_fraction : Cal P w base M "fraction" 3 2 m_fraction) : FnOk P w M.K M.mg base (L2.CX P w) 4 Dx.f Dx.fd ["one", "other"] (spD M 2 m_multiply) := by
  have h : ∀ (cdv : Value) (A : Around) (outer : List Env) (s : Shared) (H : Hp) (E : XK), Room 3 (A.deeper (envOfC "multiply" (defScope s_multiply) s.heap.objs.size Dx.f cdv)) → DSs (cxOf (L2.CX P w) P w M.K M.mg base n_multiply "multiply" (defScope s_multiply) Dx.f cdv A outer s H E) M (fun cls d _ H' => E cls d H') (defBody s_multiply) b_multiply := fun cdv A outer s H E hr => d_multiply T C_fraction (cxF_of sc_multiply hr)
  exact fn_D Dx.fu sc_multiply h
def cal_multiply {P : Program} {w : World} {base : Heap} {M : Mx} (T : Tx M w) (Dx : DefAt M "multiply" s_multiply ["one", "other"]) (C_fraction : Cal P w base M "fraction" 3 2 m_fraction) : Cal P w base M "multiply" 4 2 m_multiply := Dx.cal (ok_multiply (P := P) (base := base) T Dx C_fraction)
abbrev s_subtract : Stmt := topS 12
abbrev n_subtract : List Str := ["one", "other"]
theorem sc_subtract : FnScope n_subtract ["one", "other"] (defScope s_subtract) := ⟨rfl, rfl, rfl, by decide +kernel, rfl, by decide +kernel, by decide +kernel⟩
structure V_subtract : Prop where
  one : NameOk (defScope s_subtract) "one"
  other : NameOk (defScope s_subtract) "other"
theorem v_subtract : V_subtract := ⟨⟨by unfold Vis; decide +kernel, by decide +kernel, by decide +kernel⟩, ⟨by unfold Vis; decide +kernel, by decide +kernel, by decide +kernel⟩⟩
structure G_subtract : Prop where
  fraction : GlOk (defScope s_subtract) "fraction"
theorem g_subtract : G_subtract := ⟨⟨by decide +kernel, by decide +kernel, by decide +kernel⟩⟩
def b_subtract : DM Fl := sRet (dCall 2 [] m_fraction (aCons (dOp2 subD (dOp2 mulD (dOp2 ixD (dVar 0) (dC (.int 0))) (dOp2 ixD (dVar 1) (dC (.int 1)))) (dOp2 mulD (dOp2 ixD (dVar 1) (dC (.int 0))) (dOp2 ixD (dVar 0) (dC (.int 1))))) (aCons (dOp2 mulD (dOp2 ixD (dVar 0) (dC (.int 1))) (dOp2 ixD (dVar 1) (dC (.int 1)))) (aNil))))
def m_subtract : SE → R RV := mFn n_subtract.length b_subtract
theorem d_subtract {P : Program} {w : World} {base : Heap} {M : Mx} (T : Tx M w) (C_fraction : Cal P w base M "fraction" 3 2 m_fraction) {X : Cx} {W : DL.WX} (C : CxF P w base M n_subtract (defScope s_subtract) 3 X W) : DSs X M W (defBody s_subtract) b_subtract :=
  (dss_one (ds_ret (de_callC C.toCxD C_fraction g_subtract.fraction (by decide) (da_cons (de_sub (de_mul (de_ix (de_v C.toCxD 0 v_subtract.one) de_int (fun _ _ => rfl) C.toCxD.hK) (de_ix (de_v C.toCxD 1 v_subtract.other) de_int (fun _ _ => rfl) C.toCxD.hK)) (de_mul (de_ix (de_v C.toCxD 1 v_subtract.other) de_int (fun _ _ => rfl) C.toCxD.hK) (de_ix (de_v C.toCxD 0 v_subtract.one) de_int (fun _ _ => rfl) C.toCxD.hK))) (da_cons (de_mul (de_ix (de_v C.toCxD 0 v_subtract.one) de_int (fun _ _ => rfl) C.toCxD.hK) (de_ix (de_v C.toCxD 1 v_subtract.other) de_int (fun _ _ => rfl) C.toCxD.hK)) da_nil)))))
theorem ok_subtract {P : Program} {w : World} {base : Heap} {M : Mx} (T : Tx M w) (Dx : DefAt M "subtract" s_subtract ["one", "other"]) (C_fraction : Cal P w base M "fraction" 3 2 m_fraction) : FnOk P w M.K M.mg base (L2.CX P w) 4 Dx.f Dx.fd ["one", "other"] (spD M 2 m_subtract) := by
  have h : ∀ (cdv : Value) (A : Around) (outer : List Env) (s : Shared) (H : Hp) (E : XK), Room 3 (A.deeper (envOfC "subtract" (defScope s_subtract) s.heap.objs.size Dx.f cdv)) → DSs (cxOf (L2.CX P w) P w M.K M.mg base n_subtract "subtract" (defScope s_subtract) Dx.f cdv A outer s H E) M (fun cls d _ H' => E cls d H') (defBody s_subtract) b_subtract := fun cdv A outer s H E hr => d_subtract T C_fraction (cxF_of sc_subtract hr)
  exact fn_D Dx.fu sc_subtract h
def cal_subtract {P : Program} {w : World} {base : Heap} {M : Mx} (T : Tx M w) (Dx : DefAt M "subtract" s_subtract ["one", "other"]) (C_fraction : Cal P w base M "fraction" 3 2 m_fraction) : Cal P w base M "subtract" 4 2 m_subtract := Dx.cal (ok_subtract (P := P) (base := base) T Dx C_fraction)
abbrev s_DigitSet__first_digit : Stmt := L2.inClass (topS 23) 9
abbrev n_DigitSet__first_digit : List Str := ["self", "number", "moved", "low", "high", "digit", "rest"]
theorem sc_DigitSet__first_digit : FnScope n_DigitSet__first_digit ["self", "number"] (defScope s_DigitSet__first_digit) := ⟨rfl, rfl, rfl, by decide +kernel, rfl, by decide +kernel, by decide +kernel⟩
structure V_DigitSet__first_digit : Prop where
  number : NameOk (defScope s_DigitSet__first_digit) "number"
  self : NameOk (defScope s_DigitSet__first_digit) "self"
  digit : NameOk (defScope s_DigitSet__first_digit) "digit"
  moved : NameOk (defScope s_DigitSet__first_digit) "moved"
  high : NameOk (defScope s_DigitSet__first_digit) "high"
  rest : NameOk (defScope s_DigitSet__first_digit) "rest"
  low : NameOk (defScope s_DigitSet__first_digit) "low"
theorem v_DigitSet__first_digit : V_DigitSet__first_digit := ⟨⟨by unfold Vis; decide +kernel, by decide +kernel, by decide +kernel⟩, ⟨by unfold Vis; decide +kernel, by decide +kernel, by decide +kernel⟩, ⟨by unfold Vis; decide +kernel, by decide +kernel, by decide +kernel⟩, ⟨by unfold Vis; decide +kernel, by decide +kernel, by decide +kernel⟩, ⟨by unfold Vis; decide +kernel, by decide +kernel, by decide +kernel⟩, ⟨by unfold Vis; decide +kernel, by decide +kernel, by decide +kernel⟩, ⟨by unfold Vis; decide +kernel, by decide +kernel, by decide +kernel⟩⟩
structure L_DigitSet__first_digit : Prop where
  moved : L2.Loc (defScope s_DigitSet__first_digit) "moved"
  digit : L2.Loc (defScope s_DigitSet__first_digit) "digit"
  rest : L2.Loc (defScope s_DigitSet__first_digit) "rest"
theorem l_DigitSet__first_digit : L_DigitSet__first_digit := ⟨by unfold L2.Loc; decide +kernel, by unfold L2.Loc; decide +kernel, by unfold L2.Loc; decide +kernel⟩
structure G_DigitSet__first_digit : Prop where
  multiply : GlOk (defScope s_DigitSet__first_digit) "multiply"
  subtract : GlOk (defScope s_DigitSet__first_digit) "subtract"
  is_between : GlOk (defScope s_DigitSet__first_digit) "is_between"
  OutOfRange : GlOk (defScope s_DigitSet__first_digit) "OutOfRange"
theorem g_DigitSet__first_digit : G_DigitSet__first_digit := ⟨⟨by decide +kernel, by decide +kernel, by decide +kernel⟩, ⟨by decide +kernel, by decide +kernel, by decide +kernel⟩, ⟨by decide +kernel, by decide +kernel, by decide +kernel⟩, ⟨by decide +kernel, by decide +kernel, by decide +kernel⟩⟩
def b_DigitSet__first_digit : DM Fl := sSeq (sSet 2 (dCall 2 [] m_multiply (aCons (dTup (aCons (dOp1 (attrD "base") (dVar 0)) (aCons (dC (.int 1)) (aNil)))) (aCons (dVar 1) (aNil))))) (sSeq (sPar 3 4 (aCons (dMeth [("DigitSet", m_DigitSet__low)] 1 [] (dVar 0) (aNil)) (aCons (dMeth [("DigitSet", m_DigitSet__high)] 1 [] (dVar 0) (aNil)) (aNil)))) (sSeq (sFor (iSeq (dOp1 (attrD "digits") (dVar 0))) (tgName 5) (sSeq (sSet 6 (dCall 2 [] m_subtract (aCons (dVar 2) (aCons (dTup (aCons (dVar 5) (aCons (dC (.int 1)) (aNil)))) (aNil))))) (sIf (fun ρ => ((dCall 3 [] m_is_between (aCons (dVar 3) (aCons (dVar 6) (aCons (dVar 4) (aNil))))) ρ).bind asB) (sRet (dTup (aCons (dVar 5) (aCons (dVar 6) (aNil))))) (sPass)))) (sRaise0 "OutOfRange" "OutOfRange")))
def m_DigitSet__first_digit : SE → R RV := mFn n_DigitSet__first_digit.length b_DigitSet__first_digit
theorem d_DigitSet__first_digit {P : Program} {w : World} {base : Heap} {M : Mx} (T : Tx M w) (C_multiply : Cal P w base M "multiply" 4 2 m_multiply) (C_DigitSet__high : MCal P w base M "DigitSet" "high" 4 1 m_DigitSet__high) (C_DigitSet__low : MCal P w base M "DigitSet" "low" 4 1 m_DigitSet__low) (C_subtract : Cal P w base M "subtract" 4 2 m_subtract) (C_is_between : Cal P w base M "is_between" 2 3 m_is_between) {X : Cx} {W : DL.WX} (C : CxF P w base M n_DigitSet__first_digit (defScope s_DigitSet__first_digit) 4 X W) : DSs X M W (defBody s_DigitSet__first_digit) b_DigitSet__first_digit :=
  (dss_cons (ds_v C.toCxD 2 (C.st l_DigitSet__first_digit.moved) (de_callC C.toCxD C_multiply g_DigitSet__first_digit.multiply (by decide) (da_cons (de_tup (da_cons (de_attr C.toCxD.hK (de_v C.toCxD 0 v_DigitSet__first_digit.self)) (da_cons de_int da_nil))) (da_cons (de_v C.toCxD 1 v_DigitSet__first_digit.number) da_nil)))) (dss_cons (ds_parv C.toCxD 3 4 (by decide +kernel) (by decide +kernel) rfl (by decide +kernel) (da_cons (de_meth10 C.toCxD C_DigitSet__low (bd_nil C_DigitSet__low.b) (fun _ => .nil) (by decide) (de_v C.toCxD 0 v_DigitSet__first_digit.self)) (da_cons (de_meth10 C.toCxD C_DigitSet__high (bd_nil C_DigitSet__high.b) (fun _ => .nil) (by decide) (de_v C.toCxD 0 v_DigitSet__first_digit.self)) da_nil))) (dss_cons (ds_for C.ps C.cm (di_seq (de_attr C.toCxD.hK (de_v C.toCxD 0 v_DigitSet__first_digit.self)) C.toCxD.hK) (dg_v C.toCxD 5 (C.st l_DigitSet__first_digit.digit)) (dss_cons (ds_v C.toCxD 6 (C.st l_DigitSet__first_digit.rest) (de_callC C.toCxD C_subtract g_DigitSet__first_digit.subtract (by decide) (da_cons (de_v C.toCxD 2 v_DigitSet__first_digit.moved) (da_cons (de_tup (da_cons (de_v C.toCxD 5 v_DigitSet__first_digit.digit) (da_cons de_int da_nil))) da_nil)))) (dss_one (ds_if (dt_val (de_callC C.toCxD C_is_between g_DigitSet__first_digit.is_between (by decide) (da_cons (de_v C.toCxD 3 v_DigitSet__first_digit.low) (da_cons (de_v C.toCxD 6 v_DigitSet__first_digit.rest) (da_cons (de_v C.toCxD 4 v_DigitSet__first_digit.high) da_nil))))) (dss_one (ds_ret (de_tup (da_cons (de_v C.toCxD 5 v_DigitSet__first_digit.digit) (da_cons (de_v C.toCxD 6 v_DigitSet__first_digit.rest) da_nil))))) dss_nil)))) (dss_one (ds_raise0 (k := 0) C.toCxD T.x_OutOfRange g_DigitSet__first_digit.OutOfRange (by decide))))))
theorem ok_DigitSet__first_digit {P : Program} {w : World} {base : Heap} {M : Mx} (T : Tx M w) (Dx : MDefAt M "DigitSet" "first_digit" "DigitSet.first_digit" s_DigitSet__first_digit ["self", "number"]) (C_multiply : Cal P w base M "multiply" 4 2 m_multiply) (C_DigitSet__high : MCal P w base M "DigitSet" "high" 4 1 m_DigitSet__high) (C_DigitSet__low : MCal P w base M "DigitSet" "low" 4 1 m_DigitSet__low) (C_subtract : Cal P w base M "subtract" 4 2 m_subtract) (C_is_between : Cal P w base M "is_between" 2 3 m_is_between) : FnOk P w M.K M.mg base (L2.CX P w) 5 Dx.f Dx.fd ["self", "number"] (spD M 2 m_DigitSet__first_digit) := by
  have h : ∀ (cdv : Value) (A : Around) (outer : List Env) (s : Shared) (H : Hp) (E : XK), Room 4 (A.deeper (envOfC "DigitSet.first_digit" (defScope s_DigitSet__first_digit) s.heap.objs.size Dx.f cdv)) → DSs (cxOf (L2.CX P w) P w M.K M.mg base n_DigitSet__first_digit "DigitSet.first_digit" (defScope s_DigitSet__first_digit) Dx.f cdv A outer s H E) M (fun cls d _ H' => E cls d H') (defBody s_DigitSet__first_digit) b_DigitSet__first_digit := fun cdv A outer s H E hr => d_DigitSet__first_digit T C_multiply C_DigitSet__high C_DigitSet__low C_subtract C_is_between (cxF_of sc_DigitSet__first_digit hr)
  exact fn_D Dx.fu sc_DigitSet__first_digit h
def cal_DigitSet__first_digit {P : Program} {w : World} {base : Heap} {M : Mx} (T : Tx M w) (Dx : MDefAt M "DigitSet" "first_digit" "DigitSet.first_digit" s_DigitSet__first_digit ["self", "number"]) (C_multiply : Cal P w base M "multiply" 4 2 m_multiply) (C_DigitSet__high : MCal P w base M "DigitSet" "high" 4 1 m_DigitSet__high) (C_DigitSet__low : MCal P w base M "DigitSet" "low" 4 1 m_DigitSet__low) (C_subtract : Cal P w base M "subtract" 4 2 m_subtract) (C_is_between : Cal P w base M "is_between" 2 3 m_is_between) : MCal P w base M "DigitSet" "first_digit" 5 2 m_DigitSet__first_digit := Dx.cal (ok_DigitSet__first_digit (P := P) (base := base) T Dx C_multiply C_DigitSet__high C_DigitSet__low C_subtract C_is_between)
abbrev s_DigitSet__row_of : Stmt := L2.inClass (topS 23) 10
abbrev n_DigitSet__row_of : List Str := ["self", "number", "count", "result", "turn", "digit"]
theorem sc_DigitSet__row_of : FnScope n_DigitSet__row_of ["self", "number", "count"] (defScope s_DigitSet__row_of) := ⟨rfl, rfl, rfl, by decide +kernel, rfl, by decide +kernel, by decide +kernel⟩
structure V_DigitSet__row_of : Prop where
  count : NameOk (defScope s_DigitSet__row_of) "count"
  self : NameOk (defScope s_DigitSet__row_of) "self"
  number : NameOk (defScope s_DigitSet__row_of) "number"
  digit : NameOk (defScope s_DigitSet__row_of) "digit"
  result : NameOk (defScope s_DigitSet__row_of) "result"
theorem v_DigitSet__row_of : V_DigitSet__row_of := ⟨⟨by unfold Vis; decide +kernel, by decide +kernel, by decide +kernel⟩, ⟨by unfold Vis; decide +kernel, by decide +kernel, by decide +kernel⟩, ⟨by unfold Vis; decide +kernel, by decide +kernel, by decide +kernel⟩, ⟨by unfold Vis; decide +kernel, by decide +kernel, by decide +kernel⟩, ⟨by unfold Vis; decide +kernel, by decide +kernel, by decide +kernel⟩⟩
structure L_DigitSet__row_of : Prop where
  result : L2.Loc (defScope s_DigitSet__row_of) "result"
  turn : L2.Loc (defScope s_DigitSet__row_of) "turn"
  number : L2.Loc (defScope s_DigitSet__row_of) "number"
  digit : L2.Loc (defScope s_DigitSet__row_of) "digit"
theorem l_DigitSet__row_of : L_DigitSet__row_of := ⟨by unfold L2.Loc; decide +kernel, by unfold L2.Loc; decide +kernel, by unfold L2.Loc; decide +kernel, by unfold L2.Loc; decide +kernel⟩
structure G_DigitSet__row_of : Prop where
  MAX_ROW : GlOk (defScope s_DigitSet__row_of) "MAX_ROW"
  is_between : GlOk (defScope s_DigitSet__row_of) "is_between"
  OutOfRange : GlOk (defScope s_DigitSet__row_of) "OutOfRange"
  range : GlOk (defScope s_DigitSet__row_of) "range"
  tuple : GlOk (defScope s_DigitSet__row_of) "tuple"
theorem g_DigitSet__row_of : G_DigitSet__row_of := ⟨⟨by decide +kernel, by decide +kernel, by decide +kernel⟩, ⟨by decide +kernel, by decide +kernel, by decide +kernel⟩, ⟨by decide +kernel, by decide +kernel, by decide +kernel⟩, ⟨by decide +kernel, by decide +kernel, by decide +kernel⟩, ⟨by decide +kernel, by decide +kernel, by decide +kernel⟩⟩
def b_DigitSet__row_of : DM Fl := sSeq (sIf (dOrT (dNotT (fun ρ => (dChain leD leD (dC (.int 0)) (dVar 2) (dC c_MAX_ROW) ρ).bind asB)) (dNotT (fun ρ => ((dCall 3 [] m_is_between (aCons (dMeth [("DigitSet", m_DigitSet__low)] 1 [] (dVar 0) (aNil)) (aCons (dVar 1) (aCons (dMeth [("DigitSet", m_DigitSet__high)] 1 [] (dVar 0) (aNil)) (aNil))))) ρ).bind asB))) (sRaise0 "OutOfRange" "OutOfRange") (sPass)) (sSeq (sSet 3 (dLst (aNil))) (sSeq (sFor (iRange1 (vCons (dVar 2) (vNil))) (tgName 4) (sSeq (sAsg (tgTup 2 (tgCons (tgName 5) (tgCons (tgName 1) (tgNil)))) (dMeth [("DigitSet", m_DigitSet__first_digit)] 2 [] (dVar 0) (aCons (dVar 1) (aNil)))) (sExpr (lmD 3 gAppend (aCons (dVar 5) (aNil)))))) (sRet (dCb gTuple (vCons (dVar 3) (vNil))))))
def m_DigitSet__row_of : SE → R RV := mFn n_DigitSet__row_of.length b_DigitSet__row_of
theorem d_DigitSet__row_of {P : Program} {w : World} {base : Heap} {M : Mx} (T : Tx M w) (C_is_between : Cal P w base M "is_between" 2 3 m_is_between) (C_DigitSet__high : MCal P w base M "DigitSet" "high" 4 1 m_DigitSet__high) (C_DigitSet__low : MCal P w base M "DigitSet" "low" 4 1 m_DigitSet__low) (C_DigitSet__first_digit : MCal P w base M "DigitSet" "first_digit" 5 2 m_DigitSet__first_digit) {X : Cx} {W : DL.WX} (C : CxF P w base M n_DigitSet__row_of (defScope s_DigitSet__row_of) 5 X W) : DSs X M W (defBody s_DigitSet__row_of) b_DigitSet__row_of :=
  (dss_cons (ds_if (dt_w (dw_or (dt_not (dt_chain op_le op_le o2_le o2_le de_int (de_v C.toCxD 2 v_DigitSet__row_of.count) (de_k C.toCxD g_DigitSet__row_of.MAX_ROW T.k_MAX_ROW))) (dw_or1 (dt_not (dt_val (de_callC C.toCxD C_is_between g_DigitSet__row_of.is_between (by decide) (da_cons (de_meth10 C.toCxD C_DigitSet__low (bd_nil C_DigitSet__low.b) (fun _ => .nil) (by decide) (de_v C.toCxD 0 v_DigitSet__row_of.self)) (da_cons (de_v C.toCxD 1 v_DigitSet__row_of.number) (da_cons (de_meth10 C.toCxD C_DigitSet__high (bd_nil C_DigitSet__high.b) (fun _ => .nil) (by decide) (de_v C.toCxD 0 v_DigitSet__row_of.self)) da_nil))))))))) (dss_one (ds_raise0 (k := 0) C.toCxD T.x_OutOfRange g_DigitSet__row_of.OutOfRange (by decide))) dss_nil) (dss_cons (ds_v C.toCxD 3 (C.st l_DigitSet__row_of.result) (de_lst da_nil)) (dss_cons (ds_for C.ps C.cm (di_range1F C.toCxD g_DigitSet__row_of.range T.z_range (dv_cons (de_v C.toCxD 2 v_DigitSet__row_of.count) dv_nil)) (dg_v C.toCxD 4 (C.st l_DigitSet__row_of.turn)) (dss_cons (ds_asg (de_meth1 C.toCxD C_DigitSet__first_digit (bd_nil C_DigitSet__first_digit.b) (fun _ => .nil) (by decide) (de_v C.toCxD 0 v_DigitSet__row_of.self) (da_cons (de_v C.toCxD 1 v_DigitSet__row_of.number) da_nil)) (dg_tup C.toCxD.cm (dgs_cons (dg_v C.toCxD 5 (C.st l_DigitSet__row_of.digit)) (dgs_cons (dg_v C.toCxD 1 (C.st l_DigitSet__row_of.number)) dgs_nil)) rfl rfl C.toCxD.hK)) (dss_one (ds_expr (de_lm C.toCxD 3 v_DigitSet__row_of.result lm_append (fun to t p q => pe_bm PySem.F.plainAttrs_list PySem.F.slot_list_append PySem.F.type_list_append mt_append p q) (da_cons (de_v C.toCxD 5 v_DigitSet__row_of.digit) da_nil)))))) (dss_one (ds_ret (de_tupleF C.toCxD g_DigitSet__row_of.tuple T.z_tuple (dv_cons (de_v C.toCxD 3 v_DigitSet__row_of.result) dv_nil)))))))
theorem ok_DigitSet__row_of {P : Program} {w : World} {base : Heap} {M : Mx} (T : Tx M w) (Dx : MDefAt M "DigitSet" "row_of" "DigitSet.row_of" s_DigitSet__row_of ["self", "number", "count"]) (C_is_between : Cal P w base M "is_between" 2 3 m_is_between) (C_DigitSet__high : MCal P w base M "DigitSet" "high" 4 1 m_DigitSet__high) (C_DigitSet__low : MCal P w base M "DigitSet" "low" 4 1 m_DigitSet__low) (C_DigitSet__first_digit : MCal P w base M "DigitSet" "first_digit" 5 2 m_DigitSet__first_digit) : FnOk P w M.K M.mg base (L2.CX P w) 6 Dx.f Dx.fd ["self", "number", "count"] (spD M 3 m_DigitSet__row_of) := by
  have h : ∀ (cdv : Value) (A : Around) (outer : List Env) (s : Shared) (H : Hp) (E : XK), Room 5 (A.deeper (envOfC "DigitSet.row_of" (defScope s_DigitSet__row_of) s.heap.objs.size Dx.f cdv)) → DSs (cxOf (L2.CX P w) P w M.K M.mg base n_DigitSet__row_of "DigitSet.row_of" (defScope s_DigitSet__row_of) Dx.f cdv A outer s H E) M (fun cls d _ H' => E cls d H') (defBody s_DigitSet__row_of) b_DigitSet__row_of := fun cdv A outer s H E hr => d_DigitSet__row_of T C_is_between C_DigitSet__high C_DigitSet__low C_DigitSet__first_digit (cxF_of sc_DigitSet__row_of hr)
  exact fn_D Dx.fu sc_DigitSet__row_of h
def cal_DigitSet__row_of {P : Program} {w : World} {base : Heap} {M : Mx} (T : Tx M w) (Dx : MDefAt M "DigitSet" "row_of" "DigitSet.row_of" s_DigitSet__row_of ["self", "number", "count"]) (C_is_between : Cal P w base M "is_between" 2 3 m_is_between) (C_DigitSet__high : MCal P w base M "DigitSet" "high" 4 1 m_DigitSet__high) (C_DigitSet__low : MCal P w base M "DigitSet" "low" 4 1 m_DigitSet__low) (C_DigitSet__first_digit : MCal P w base M "DigitSet" "first_digit" 5 2 m_DigitSet__first_digit) : MCal P w base M "DigitSet" "row_of" 6 3 m_DigitSet__row_of := Dx.cal (ok_DigitSet__row_of (P := P) (base := base) T Dx C_is_between C_DigitSet__high C_DigitSet__low C_DigitSet__first_digit)
abbrev s__law_field : Stmt := topS 29
abbrev n__law_field : List Str := ["_law_e"]
theorem sc__law_field : FnScope n__law_field ["_law_e"] (defScope s__law_field) := ⟨rfl, rfl, rfl, by decide +kernel, rfl, by decide +kernel, by decide +kernel⟩
structure V__law_field : Prop where
  _law_e : NameOk (defScope s__law_field) "_law_e"
theorem v__law_field : V__law_field := ⟨⟨by unfold Vis; decide +kernel, by decide +kernel, by decide +kernel⟩⟩
def b__law_field : DM Fl := sSeq (sIf (fun ρ => (dOp2 (inD false) (dOp1 (attrD "tag") (dVar 0)) (dTup (aCons (dC (.str "CircularName")) (aCons (dC (.str "InvalidName")) (aCons (dC (.str "DuplicateName")) (aCons (dC (.str "WrongKind")) (aCons (dC (.str "UndefinedName")) (aNil))))))) ρ).bind asB) (sRet (dOp1 (attrD "name") (dVar 0))) (sPass)) (sSeq (sIf (fun ρ => (dOp2 (inD false) (dOp1 (attrD "tag") (dVar 0)) (dTup (aCons (dC (.str "InvalidText")) (aCons (dC (.str "InvalidCommand")) (aNil)))) ρ).bind asB) (sRet (dOp1 (attrD "position") (dVar 0))) (sPass)) (sSeq (sIf (fun ρ => (dOp2 eqD (dOp1 (attrD "tag") (dVar 0)) (dC (.str "InvalidMachine")) ρ).bind asB) (sRet (dOp1 (attrD "state") (dVar 0))) (sPass)) (sSeq (sIf (fun ρ => (dOp2 eqD (dOp1 (attrD "tag") (dVar 0)) (dC (.str "LimitReached")) ρ).bind asB) (sRet (dOp1 (attrD "limit") (dVar 0))) (sPass)) (sSeq (sIf (fun ρ => (dOp2 eqD (dOp1 (attrD "tag") (dVar 0)) (dC (.str "NameInUse")) ρ).bind asB) (sRet (dOp1 (attrD "user") (dVar 0))) (sPass)) (sRet (dIf (fun ρ => (dOp2 eqD (dOp1 (attrD "tag") (dVar 0)) (dC (.str "InvalidDocument")) ρ).bind asB) (dOp1 (attrD "line") (dVar 0)) (dC .non)))))))
def m__law_field : SE → R RV := mFn n__law_field.length b__law_field
theorem d__law_field {M : Mx} {X : Cx} {W : DL.WX} (C : CxQ M n__law_field (defScope s__law_field) X) : DSs X M W (defBody s__law_field) b__law_field :=
  (dss_cons (ds_if (dt_in (de_attr C.hK (dq_v C 0 v__law_field._law_e)) (de_tup (da_cons de_str (da_cons de_str (da_cons de_str (da_cons de_str (da_cons de_str da_nil)))))) C.u65 rfl C.hK) (dss_one (ds_ret (de_attr C.hK (dq_v C 0 v__law_field._law_e)))) dss_nil) (dss_cons (ds_if (dt_in (de_attr C.hK (dq_v C 0 v__law_field._law_e)) (de_tup (da_cons de_str (da_cons de_str da_nil))) C.u65 rfl C.hK) (dss_one (ds_ret (de_attr C.hK (dq_v C 0 v__law_field._law_e)))) dss_nil) (dss_cons (ds_if (dt_eq (de_attr C.hK (dq_v C 0 v__law_field._law_e)) de_str C.u64 C.hK) (dss_one (ds_ret (de_attr C.hK (dq_v C 0 v__law_field._law_e)))) dss_nil) (dss_cons (ds_if (dt_eq (de_attr C.hK (dq_v C 0 v__law_field._law_e)) de_str C.u64 C.hK) (dss_one (ds_ret (de_attr C.hK (dq_v C 0 v__law_field._law_e)))) dss_nil) (dss_cons (ds_if (dt_eq (de_attr C.hK (dq_v C 0 v__law_field._law_e)) de_str C.u64 C.hK) (dss_one (ds_ret (de_attr C.hK (dq_v C 0 v__law_field._law_e)))) dss_nil) (dss_one (ds_ret (de_if (dt_eq (de_attr C.hK (dq_v C 0 v__law_field._law_e)) de_str C.u64 C.hK) (de_attr C.hK (dq_v C 0 v__law_field._law_e)) de_non))))))))
theorem okq__law_field {M : Mx} (Dx : DefAt M "_law_field" s__law_field ["_law_e"]) (P : Program) (w : World) (base : Heap) : FnQ P w M.K M.mg base 1 Dx.f Dx.fd ["_law_e"] (spD M 1 m__law_field) := by
  have h : ∀ (cdv : Value) (A : Around) (outer : List Env) (s : Shared) (H : Hp) (E : XK) (p : Addr × Obj), L2H.RoomH 0 (A.deeper (envOfC "_law_field" (defScope s__law_field) s.heap.objs.size Dx.f cdv)) → DSs (L2H.cxH (L2.CX P w) P w M.K M.mg base n__law_field "_law_field" (defScope s__law_field) Dx.f cdv A outer s H E p) M (fun cls d _ H' => E cls d H') (defBody s__law_field) b__law_field := fun cdv A outer s H E p hr => d__law_field (cxQ_of hr)
  exact fn_DQ Dx.fu sc__law_field h
abbrev s__law_outcome : Stmt := topS 30
theorem sO : OutSc (defScope s__law_outcome) := ⟨⟨rfl, rfl, rfl, by decide +kernel, rfl, by decide +kernel, by decide +kernel⟩, by unfold Vis; decide +kernel, by decide +kernel, by decide +kernel, by decide +kernel, by decide +kernel, by decide +kernel⟩
abbrev s__law_tag : Stmt := topS 31
theorem sT : TagSc (defScope s__law_tag) := ⟨⟨rfl, rfl, rfl, by decide +kernel, rfl, by decide +kernel, by decide +kernel⟩, by unfold Vis; decide +kernel, by decide +kernel⟩
abbrev s_law : Stmt := topS 43
abbrev n_law : List Str := ["_law_script", "_law_rng", "_law_turn", "_law_base", "_law_digits_here", "_law_number", "_law_many", "_law_k", "_law_far", "_law_odd", "_law_tags", "_law_one", "_law_ends_here", "_law_due", "_law_rest", "_law_moved", "_law_some", "_law_digit"]
theorem sc_law : FnScope n_law ["_law_script"] (defScope s_law) := ⟨rfl, rfl, rfl, by decide +kernel, rfl, by decide +kernel, by decide +kernel⟩
structure V_law : Prop where
  _law_script : NameOk (defScope s_law) "_law_script"
  _law_rng : NameOk (defScope s_law) "_law_rng"
  _law_base : NameOk (defScope s_law) "_law_base"
  _law_digits_here : NameOk (defScope s_law) "_law_digits_here"
  _law_ends_here : NameOk (defScope s_law) "_law_ends_here"
  _law_number : NameOk (defScope s_law) "_law_number"
  _law_many : NameOk (defScope s_law) "_law_many"
  _law_rest : NameOk (defScope s_law) "_law_rest"
  _law_some : NameOk (defScope s_law) "_law_some"
  _law_due : NameOk (defScope s_law) "_law_due"
  _law_moved : NameOk (defScope s_law) "_law_moved"
  _law_one : NameOk (defScope s_law) "_law_one"
  _law_tags : NameOk (defScope s_law) "_law_tags"
theorem v_law : V_law := ⟨⟨by unfold Vis; decide +kernel, by decide +kernel, by decide +kernel⟩, ⟨by unfold Vis; decide +kernel, by decide +kernel, by decide +kernel⟩, ⟨by unfold Vis; decide +kernel, by decide +kernel, by decide +kernel⟩, ⟨by unfold Vis; decide +kernel, by decide +kernel, by decide +kernel⟩, ⟨by unfold Vis; decide +kernel, by decide +kernel, by decide +kernel⟩, ⟨by unfold Vis; decide +kernel, by decide +kernel, by decide +kernel⟩, ⟨by unfold Vis; decide +kernel, by decide +kernel, by decide +kernel⟩, ⟨by unfold Vis; decide +kernel, by decide +kernel, by decide +kernel⟩, ⟨by unfold Vis; decide +kernel, by decide +kernel, by decide +kernel⟩, ⟨by unfold Vis; decide +kernel, by decide +kernel, by decide +kernel⟩, ⟨by unfold Vis; decide +kernel, by decide +kernel, by decide +kernel⟩, ⟨by unfold Vis; decide +kernel, by decide +kernel, by decide +kernel⟩, ⟨by unfold Vis; decide +kernel, by decide +kernel, by decide +kernel⟩⟩
structure L_law : Prop where
  _law_rng : L2.Loc (defScope s_law) "_law_rng"
  _law_turn : L2.Loc (defScope s_law) "_law_turn"
  _law_base : L2.Loc (defScope s_law) "_law_base"
  _law_digits_here : L2.Loc (defScope s_law) "_law_digits_here"
  _law_ends_here : L2.Loc (defScope s_law) "_law_ends_here"
  _law_one : L2.Loc (defScope s_law) "_law_one"
  _law_number : L2.Loc (defScope s_law) "_law_number"
  _law_many : L2.Loc (defScope s_law) "_law_many"
  _law_k : L2.Loc (defScope s_law) "_law_k"
  _law_moved : L2.Loc (defScope s_law) "_law_moved"
  _law_rest : L2.Loc (defScope s_law) "_law_rest"
  _law_far : L2.Loc (defScope s_law) "_law_far"
  _law_odd : L2.Loc (defScope s_law) "_law_odd"
  _law_tags : L2.Loc (defScope s_law) "_law_tags"
theorem l_law : L_law := ⟨by unfold L2.Loc; decide +kernel, by unfold L2.Loc; decide +kernel, by unfold L2.Loc; decide +kernel, by unfold L2.Loc; decide +kernel, by unfold L2.Loc; decide +kernel, by unfold L2.Loc; decide +kernel, by unfold L2.Loc; decide +kernel, by unfold L2.Loc; decide +kernel, by unfold L2.Loc; decide +kernel, by unfold L2.Loc; decide +kernel, by unfold L2.Loc; decide +kernel, by unfold L2.Loc; decide +kernel, by unfold L2.Loc; decide +kernel, by unfold L2.Loc; decide +kernel⟩
structure G_law : Prop where
  _law_begin : GlOk (defScope s_law) "_law_begin"
  range : GlOk (defScope s_law) "range"
  _law_draw : GlOk (defScope s_law) "_law_draw"
  _law_digits : GlOk (defScope s_law) "_law_digits"
  _law_ends : GlOk (defScope s_law) "_law_ends"
  _law_set : GlOk (defScope s_law) "_law_set"
  _law_in_interval : GlOk (defScope s_law) "_law_in_interval"
  _law_pick : GlOk (defScope s_law) "_law_pick"
  _law_times : GlOk (defScope s_law) "_law_times"
  sorted : GlOk (defScope s_law) "sorted"
  _law_minus : GlOk (defScope s_law) "_law_minus"
  tuple : GlOk (defScope s_law) "tuple"
  _law_same : GlOk (defScope s_law) "_law_same"
  _law_plus : GlOk (defScope s_law) "_law_plus"
  _law_tag : GlOk (defScope s_law) "_law_tag"
  DigitSet : GlOk (defScope s_law) "DigitSet"
  len : GlOk (defScope s_law) "len"
theorem g_law : G_law := ⟨⟨by decide +kernel, by decide +kernel, by decide +kernel⟩, ⟨by decide +kernel, by decide +kernel, by decide +kernel⟩, ⟨by decide +kernel, by decide +kernel, by decide +kernel⟩, ⟨by decide +kernel, by decide +kernel, by decide +kernel⟩, ⟨by decide +kernel, by decide +kernel, by decide +kernel⟩, ⟨by decide +kernel, by decide +kernel, by decide +kernel⟩, ⟨by decide +kernel, by decide +kernel, by decide +kernel⟩, ⟨by decide +kernel, by decide +kernel, by decide +kernel⟩, ⟨by decide +kernel, by decide +kernel, by decide +kernel⟩, ⟨by decide +kernel, by decide +kernel, by decide +kernel⟩, ⟨by decide +kernel, by decide +kernel, by decide +kernel⟩, ⟨by decide +kernel, by decide +kernel, by decide +kernel⟩, ⟨by decide +kernel, by decide +kernel, by decide +kernel⟩, ⟨by decide +kernel, by decide +kernel, by decide +kernel⟩, ⟨by decide +kernel, by decide +kernel, by decide +kernel⟩, ⟨by decide +kernel, by decide +kernel, by decide +kernel⟩, ⟨by decide +kernel, by decide +kernel, by decide +kernel⟩⟩
def b_law : DM Fl := sSeq (sSet 1 (dCall 1 [] m__law_begin (aCons (dVar 0) (aNil)))) (sSeq (sFor (iRange1 (vCons (dC (.int 5)) (vNil))) (tgName 2) (sSeq (sSet 3 (dOp2 addD (dC (.int 2)) (dCall 2 [] m__law_draw (aIo 1 (aCons (dC (.int 9)) (aNil)))))) (sSeq (sSet 4 (dCall 3 [] m__law_digits (aIo 1 (aCons (dVar 3) (aCons (dC (.int 12)) (aNil)))))) (sSeq (sAsg (tgTup 2 (tgCons (tgName 11) (tgCons (tgName 12) (tgNil)))) (dTup (aCons (dCall 2 [] m__law_set (aCons (dVar 3) (aCons (dVar 4) (aNil)))) (aCons (dCall 2 [] m__law_ends (aCons (dVar 3) (aCons (dVar 4) (aNil)))) (aNil))))) (sSeq (sSet 5 (dCall 2 [] m__law_pick (aIo 1 (aCons (dLst (aCons (dOp2 ixD (dVar 12) (dC (.int 0))) (aCons (dOp2 ixD (dVar 12) (dC (.int 1))) (aCons (dCall 3 [] m__law_in_interval (aIo 1 (aCons (dVar 12) (aCons (dC (.int 30)) (aNil))))) (aCons (dCall 3 [] m__law_in_interval (aIo 1 (aCons (dVar 12) (aCons (dC (.int 999)) (aNil))))) (aNil)))))) (aNil))))) (sSeq (sSet 6 (dCall 2 [] m__law_pick (aIo 1 (aCons (dLst (aCons (dCall 2 [] m__law_draw (aIo 1 (aCons (dC (.int 9)) (aNil)))) (aCons (dCall 2 [] m__law_draw (aIo 1 (aCons (dC (.int 40)) (aNil)))) (aCons (dC (.int 200)) (aNil))))) (aNil))))) (sSeq (sParO 13 14 (dLst (aNil)) (dVar 5)) (sSeq (sFor (iRange1 (vCons (dVar 6) (vNil))) (tgName 7) (sSeq (sSet 15 (dCall 2 [] m__law_times (aCons (dTup (aCons (dVar 3) (aCons (dC (.int 1)) (aNil)))) (aCons (dVar 14) (aNil))))) (sSeq (sSet 16 (dLc [17] (iSeq (dCb gSorted (vCons (dVar 4) (vNil)))) (tgName 17) (fun ρ => ((dCall 3 [] m__law_inside (aCons (dOp2 ixD (dVar 12) (dC (.int 0))) (aCons (dCall 2 [] m__law_minus (aCons (dVar 15) (aCons (dTup (aCons (dVar 17) (aCons (dC (.int 1)) (aNil)))) (aNil)))) (aCons (dOp2 ixD (dVar 12) (dC (.int 1))) (aNil))))) ρ).bind asB) (dVar 17))) (sSeq (sExpr (lmD 13 gAppend (aCons (dOp2 ixD (dVar 16) (dC (.int 0))) (aNil)))) (sSet 14 (dCall 2 [] m__law_minus (aCons (dVar 15) (aCons (dTup (aCons (dOp2 ixD (dVar 16) (dC (.int 0))) (aCons (dC (.int 1)) (aNil)))) (aNil))))))))) (sSeq (sIf (dNotT (fun ρ => ((dCall 2 [] (m__law_same 8) (aCons (dMeth [("DigitSet", m_DigitSet__row_of)] 3 [] (dVar 11) (aCons (dVar 5) (aCons (dVar 6) (aNil)))) (aCons (dCb gTuple (vCons (dVar 13) (vNil))) (aNil)))) ρ).bind asB)) (sRet (dC (.bl false))) (sPass)) (sSeq (sSet 8 (dCall 2 [] m__law_pick (aIo 1 (aCons (dLst (aCons (dCall 2 [] m__law_plus (aCons (dOp2 ixD (dVar 12) (dC (.int 1))) (aCons (dTup (aCons (dC (.int 1)) (aCons (dC (.int 97)) (aNil)))) (aNil)))) (aCons (dCall 2 [] m__law_minus (aCons (dOp2 ixD (dVar 12) (dC (.int 0))) (aCons (dTup (aCons (dC (.int 1)) (aCons (dC (.int 89)) (aNil)))) (aNil)))) (aNil)))) (aNil))))) (sSeq (sSet 9 (dCall 2 [] m__law_pick (aIo 1 (aCons (dLst (aCons (dOp1 negD (dC (.int 1))) (aCons (dC (.int 201)) (aCons (dOp2 powD (dC (.int 10)) (dC (.int 20))) (aNil))))) (aNil))))) (sSeq (sSet 10 (dLst (aCons (dOp2 ixD (dOut m__law_field okE (dMeth [("DigitSet", m_DigitSet__row_of)] 3 [] (dVar 11) (aCons (dVar 8) (aCons (dC (.int 3)) (aNil))))) (dC (.int 0))) (aCons (dOp2 ixD (dOut m__law_field okE (dMeth [("DigitSet", m_DigitSet__row_of)] 3 [] (dVar 11) (aCons (dVar 5) (aCons (dVar 9) (aNil))))) (dC (.int 0))) (aNil))))) (sIf (fun ρ => (dOp2 neD (dVar 10) (dOp2 repD (dLst (aCons (dC (.str "OutOfRange")) (aNil))) (dC (.int 2))) ρ).bind asB) (sRet (dC (.bl false))) (sPass)))))))))))))) (sRet (dOp2 eqD (dCb gLen (vCons (dMeth [("DigitSet", m_DigitSet__row_of)] 3 [] (dMake "DigitSet" 3 [] m_DigitSet____init__ (aCons (dC (.int 3)) (aCons (dTup (aCons (dC (.int 0)) (aCons (dC (.int 1)) (aCons (dC (.int 2)) (aNil))))) (aNil)))) (aCons (dTup (aCons (dC (.int 1)) (aCons (dC (.int 2)) (aNil)))) (aCons (dC (.int 200)) (aNil)))) (vNil))) (dC (.int 200)))))
def m_law : SE → R RV := mFn n_law.length b_law
theorem d_law {P : Program} {w : World} {base : Heap} {M : Mx} (T : Tx M w) (C__law_begin : Cal P w base M "_law_begin" 1 1 m__law_begin) (C__law_draw : Cal P w base M "_law_draw" 1 2 m__law_draw) (C__law_digits : Cal P w base M "_law_digits" 3 3 m__law_digits) (C__law_ends : Cal P w base M "_law_ends" 2 2 m__law_ends) (C__law_set : Cal P w base M "_law_set" 5 2 m__law_set) (C__law_pick : Cal P w base M "_law_pick" 2 2 m__law_pick) (C__law_in_interval : Cal P w base M "_law_in_interval" 3 3 m__law_in_interval) (C__law_times : Cal P w base M "_law_times" 2 2 m__law_times) (C__law_inside : Cal P w base M "_law_inside" 2 3 m__law_inside) (C__law_minus : Cal P w base M "_law_minus" 2 2 m__law_minus) (C__law_same : Cal P w base M "_law_same" 8 2 (m__law_same 8)) (C_DigitSet__row_of : MCal P w base M "DigitSet" "row_of" 6 3 m_DigitSet__row_of) (C__law_plus : Cal P w base M "_law_plus" 2 2 m__law_plus) (C_DigitSet____init__ : ICal P w base M "DigitSet" 3 3 m_DigitSet____init__) (O : OutAt M s__law_outcome s__law_field okE m__law_field) (TG : DefAt M "_law_tag" s__law_tag ["_law_ask"]) {c Pt : Addr} {X : Cx} {W : DL.WX} (C : CxL P w base M n_law (defScope s_law) 9 X W c Pt) : DSs X M W (defBody s_law) b_law :=
  (dss_cons (ds_v C.toCxD 1 (C.st l_law._law_rng) (de_callC C.toCxD C__law_begin g_law._law_begin (by decide) (da_cons (de_v C.toCxD 0 v_law._law_script) da_nil))) (dss_cons (ds_for C.ps C.cm (di_range1F C.toCxD g_law.range T.z_range (dv_cons de_int dv_nil)) (dg_v C.toCxD 2 (C.st l_law._law_turn)) (dss_cons (ds_v C.toCxD 3 (C.st l_law._law_base) (de_add de_int (de_callC C.toCxD C__law_draw g_law._law_draw (by decide) (da_v C.toCxD 1 v_law._law_rng (da_cons de_int da_nil))) C.toCxD.hK)) (dss_cons (ds_v C.toCxD 4 (C.st l_law._law_digits_here) (de_callC C.toCxD C__law_digits g_law._law_digits (by decide) (da_v C.toCxD 1 v_law._law_rng (da_cons (de_v C.toCxD 3 v_law._law_base) (da_cons de_int da_nil))))) (dss_cons (ds_asg (de_tup (da_cons (de_callC C.toCxD C__law_set g_law._law_set (by decide) (da_cons (de_v C.toCxD 3 v_law._law_base) (da_cons (de_v C.toCxD 4 v_law._law_digits_here) da_nil))) (da_cons (de_callC C.toCxD C__law_ends g_law._law_ends (by decide) (da_cons (de_v C.toCxD 3 v_law._law_base) (da_cons (de_v C.toCxD 4 v_law._law_digits_here) da_nil))) da_nil))) (dg_tup C.toCxD.cm (dgs_cons (dg_v C.toCxD 11 (C.st l_law._law_one)) (dgs_cons (dg_v C.toCxD 12 (C.st l_law._law_ends_here)) dgs_nil)) rfl rfl C.toCxD.hK) (hw := swappedC (by rw [C.toCxD.hs]; decide +kernel))) (dss_cons (ds_v C.toCxD 5 (C.st l_law._law_number) (de_callC C.toCxD C__law_pick g_law._law_pick (by decide) (da_v C.toCxD 1 v_law._law_rng (da_cons (de_lst (da_cons (de_ix (de_v C.toCxD 12 v_law._law_ends_here) de_int (fun _ _ => rfl) C.toCxD.hK) (da_cons (de_ix (de_v C.toCxD 12 v_law._law_ends_here) de_int (fun _ _ => rfl) C.toCxD.hK) (da_cons (de_callC C.toCxD C__law_in_interval g_law._law_in_interval (by decide) (da_v C.toCxD 1 v_law._law_rng (da_cons (de_v C.toCxD 12 v_law._law_ends_here) (da_cons de_int da_nil)))) (da_cons (de_callC C.toCxD C__law_in_interval g_law._law_in_interval (by decide) (da_v C.toCxD 1 v_law._law_rng (da_cons (de_v C.toCxD 12 v_law._law_ends_here) (da_cons de_int da_nil)))) da_nil))))) da_nil)))) (dss_cons (ds_v C.toCxD 6 (C.st l_law._law_many) (de_callC C.toCxD C__law_pick g_law._law_pick (by decide) (da_v C.toCxD 1 v_law._law_rng (da_cons (de_lst (da_cons (de_callC C.toCxD C__law_draw g_law._law_draw (by decide) (da_v C.toCxD 1 v_law._law_rng (da_cons de_int da_nil))) (da_cons (de_callC C.toCxD C__law_draw g_law._law_draw (by decide) (da_v C.toCxD 1 v_law._law_rng (da_cons de_int da_nil))) (da_cons de_int da_nil)))) da_nil)))) (dss_cons (ds_parOv C.toCxD 13 14 (by decide +kernel) (by decide +kernel) rfl (by decide +kernel) (de_lst da_nil) (de_v C.toCxD 5 v_law._law_number)) (dss_cons (ds_for C.ps C.cm (di_range1F C.toCxD g_law.range T.z_range (dv_cons (de_v C.toCxD 6 v_law._law_many) dv_nil)) (dg_v C.toCxD 7 (C.st l_law._law_k)) (dss_cons (ds_v C.toCxD 15 (C.st l_law._law_moved) (de_callC C.toCxD C__law_times g_law._law_times (by decide) (da_cons (de_tup (da_cons (de_v C.toCxD 3 v_law._law_base) (da_cons de_int da_nil))) (da_cons (de_v C.toCxD 14 v_law._law_rest) da_nil)))) (dss_cons (ds_setLcF C.toCxD 16 (by decide +kernel) rfl (by decide +kernel) [("_law_digit", 17)] (blkOk_by (by decide +kernel)) tgName_ex (di_seq (de_sortedF C.toCxD g_law.sorted T.z_sorted (dv_cons (de_v C.toCxD 4 v_law._law_digits_here) dv_nil)) C.toCxD.hK) (fun _ _ _ _ _ => (dg_v (C.toCxD.blk rfl _ _ _ _ _) 17 ((C.toCxD.blk rfl _ _ _ _ _).stl (by decide +kernel)))) (fun _ _ _ _ _ => (dts_one (dt_val (de_callC (C.toCxD.blk rfl _ _ _ _ _) C__law_inside ⟨by decide +kernel, by decide +kernel, by decide +kernel⟩ (by decide) (da_cons (de_ix (de_v (C.toCxD.blk rfl _ _ _ _ _) 12 ⟨by unfold Vis; decide +kernel, by decide +kernel, by decide +kernel⟩) de_int (fun _ _ => rfl) (C.toCxD.blk rfl _ _ _ _ _).hK) (da_cons (de_callC (C.toCxD.blk rfl _ _ _ _ _) C__law_minus ⟨by decide +kernel, by decide +kernel, by decide +kernel⟩ (by decide) (da_cons (de_v (C.toCxD.blk rfl _ _ _ _ _) 15 ⟨by unfold Vis; decide +kernel, by decide +kernel, by decide +kernel⟩) (da_cons (de_tup (da_cons (de_v (C.toCxD.blk rfl _ _ _ _ _) 17 ⟨by unfold Vis; decide +kernel, by decide +kernel, by decide +kernel⟩) (da_cons de_int da_nil))) da_nil))) (da_cons (de_ix (de_v (C.toCxD.blk rfl _ _ _ _ _) 12 ⟨by unfold Vis; decide +kernel, by decide +kernel, by decide +kernel⟩) de_int (fun _ _ => rfl) (C.toCxD.blk rfl _ _ _ _ _).hK) da_nil))))))) (fun _ _ _ _ _ => (de_v (C.toCxD.blk rfl _ _ _ _ _) 17 ⟨by unfold Vis; decide +kernel, by decide +kernel, by decide +kernel⟩))) (dss_cons (ds_expr (de_lm C.toCxD 13 v_law._law_due lm_append (fun to t p q => pe_bm PySem.F.plainAttrs_list PySem.F.slot_list_append PySem.F.type_list_append mt_append p q) (da_cons (de_ix (de_v C.toCxD 16 v_law._law_some) de_int (fun _ _ => rfl) C.toCxD.hK) da_nil))) (dss_one (ds_v C.toCxD 14 (C.st l_law._law_rest) (de_callC C.toCxD C__law_minus g_law._law_minus (by decide) (da_cons (de_v C.toCxD 15 v_law._law_moved) (da_cons (de_tup (da_cons (de_ix (de_v C.toCxD 16 v_law._law_some) de_int (fun _ _ => rfl) C.toCxD.hK) (da_cons de_int da_nil))) da_nil))))))))) (dss_cons (ds_if (dt_not (dt_val (de_callC C.toCxD C__law_same g_law._law_same (by decide) (da_cons (de_meth1 C.toCxD C_DigitSet__row_of (bd_nil C_DigitSet__row_of.b) (fun _ => .nil) (by decide) (de_v C.toCxD 11 v_law._law_one) (da_cons (de_v C.toCxD 5 v_law._law_number) (da_cons (de_v C.toCxD 6 v_law._law_many) da_nil))) (da_cons (de_tupleF C.toCxD g_law.tuple T.z_tuple (dv_cons (de_v C.toCxD 13 v_law._law_due) dv_nil)) da_nil))))) (dss_one (ds_ret de_bl)) dss_nil) (dss_cons (ds_v C.toCxD 8 (C.st l_law._law_far) (de_callC C.toCxD C__law_pick g_law._law_pick (by decide) (da_v C.toCxD 1 v_law._law_rng (da_cons (de_lst (da_cons (de_callC C.toCxD C__law_plus g_law._law_plus (by decide) (da_cons (de_ix (de_v C.toCxD 12 v_law._law_ends_here) de_int (fun _ _ => rfl) C.toCxD.hK) (da_cons (de_tup (da_cons de_int (da_cons de_int da_nil))) da_nil))) (da_cons (de_callC C.toCxD C__law_minus g_law._law_minus (by decide) (da_cons (de_ix (de_v C.toCxD 12 v_law._law_ends_here) de_int (fun _ _ => rfl) C.toCxD.hK) (da_cons (de_tup (da_cons de_int (da_cons de_int da_nil))) da_nil))) da_nil))) da_nil)))) (dss_cons (ds_v C.toCxD 9 (C.st l_law._law_odd) (de_callC C.toCxD C__law_pick g_law._law_pick (by decide) (da_v C.toCxD 1 v_law._law_rng (da_cons (de_lst (da_cons (de_neg de_int) (da_cons de_int (da_cons (de_pow de_int de_int) da_nil)))) da_nil)))) (dss_cons (ds_v C.toCxD 10 (C.st l_law._law_tags) (de_lst (da_cons (de_tag (k := 6) C O sO TG sT g_law._law_tag (by decide) (LamX.lamS_by (by decide +kernel)) (fun Xl E Cl => (de_meth1 Cl C_DigitSet__row_of (bd_nil C_DigitSet__row_of.b) (fun _ => .nil) (by decide) (de_v Cl 11 ⟨by unfold Vis; decide +kernel, by decide +kernel, by decide +kernel⟩) (da_cons (de_v Cl 8 ⟨by unfold Vis; decide +kernel, by decide +kernel, by decide +kernel⟩) (da_cons de_int da_nil))))) (da_cons (de_tagD (k := 6) C O sO TG sT g_law._law_tag (by decide) (lamD_by (a := "_law_a") (by decide +kernel)) (by decide +kernel) (fun Xl E Cl => (de_meth1 Cl C_DigitSet__row_of (bd_nil C_DigitSet__row_of.b) (fun _ => .nil) (by decide) (de_v Cl 11 ⟨by unfold Vis; decide +kernel, by decide +kernel, by decide +kernel⟩) (da_cons (de_v Cl 5 ⟨by unfold Vis; decide +kernel, by decide +kernel, by decide +kernel⟩) (da_cons (de_v Cl 9 ⟨by unfold Vis; decide +kernel, by decide +kernel, by decide +kernel⟩) da_nil))))) da_nil)))) (dss_one (ds_if (dt_ne (de_v C.toCxD 10 v_law._law_tags) (de_rep (de_lst (da_cons de_str da_nil)) de_int) C.toCxD.u64 C.toCxD.hK) (dss_one (ds_ret de_bl)) dss_nil)))))))))))))) (dss_one (ds_ret (de_eq (de_lenF C.toCxD g_law.len T.z_len (dv_cons (de_meth1 C.toCxD C_DigitSet__row_of (bd_nil C_DigitSet__row_of.b) (fun _ => .nil) (by decide) (de_make C.toCxD C_DigitSet____init__ (bd_nil C_DigitSet____init__.b) (fun _ => .nil) g_law.DigitSet (by decide) (da_cons de_int (da_cons (de_tup (da_cons de_int (da_cons de_int (da_cons de_int da_nil)))) da_nil))) (da_cons (de_tup (da_cons de_int (da_cons de_int da_nil))) (da_cons de_int da_nil))) dv_nil)) de_int C.toCxD.u64 C.toCxD.hK)))))
theorem ok_law {P : Program} {w : World} {base : Heap} {M : Mx} (T : Tx M w) {c Pt : Addr} (Dx : DefAtL M "law" s_law ["_law_script"] c Pt) (tb : LamX.TabB base M.mg c Pt) (C__law_begin : Cal P w base M "_law_begin" 1 1 m__law_begin) (C__law_draw : Cal P w base M "_law_draw" 1 2 m__law_draw) (C__law_digits : Cal P w base M "_law_digits" 3 3 m__law_digits) (C__law_ends : Cal P w base M "_law_ends" 2 2 m__law_ends) (C__law_set : Cal P w base M "_law_set" 5 2 m__law_set) (C__law_pick : Cal P w base M "_law_pick" 2 2 m__law_pick) (C__law_in_interval : Cal P w base M "_law_in_interval" 3 3 m__law_in_interval) (C__law_times : Cal P w base M "_law_times" 2 2 m__law_times) (C__law_inside : Cal P w base M "_law_inside" 2 3 m__law_inside) (C__law_minus : Cal P w base M "_law_minus" 2 2 m__law_minus) (C__law_same : Cal P w base M "_law_same" 8 2 (m__law_same 8)) (C_DigitSet__row_of : MCal P w base M "DigitSet" "row_of" 6 3 m_DigitSet__row_of) (C__law_plus : Cal P w base M "_law_plus" 2 2 m__law_plus) (C_DigitSet____init__ : ICal P w base M "DigitSet" 3 3 m_DigitSet____init__) (O : OutAt M s__law_outcome s__law_field okE m__law_field) (TG : DefAt M "_law_tag" s__law_tag ["_law_ask"]) : FnOk P w M.K M.mg base (L2.CX P w) 10 Dx.d.f Dx.d.fd ["_law_script"] (spD M 1 m_law) := by
  have h : ∀ (A : Around) (outer : List Env) (s : Shared) (H : Hp) (E : XK), Room 9 (A.deeper (envOfC "law" (defScope s_law) s.heap.objs.size Dx.d.f (.ref c))) → DSs (cxOf (L2.CX P w) P w M.K M.mg base n_law "law" (defScope s_law) Dx.d.f (.ref c) A outer s H E) M (fun cls d _ H' => E cls d H') (defBody s_law) b_law := fun A outer s H E hr => d_law T C__law_begin C__law_draw C__law_digits C__law_ends C__law_set C__law_pick C__law_in_interval C__law_times C__law_inside C__law_minus C__law_same C_DigitSet__row_of C__law_plus C_DigitSet____init__ O TG (cxL_of Dx sc_law tb hr)
  exact fn_DL Dx sc_law h
structure Ax (M : Mx) (c Pt : Addr) where
  f__law_begin : DefAt M "_law_begin" s__law_begin ["_law_script"]
  f__law_draw : DefAt M "_law_draw" s__law_draw ["_law_rng", "_law_many"]
  f__law_pick : DefAt M "_law_pick" s__law_pick ["_law_rng", "_law_items"]
  f__law_are_digits : DefAt M "_law_are_digits" s__law_are_digits ["_law_base", "_law_digits_here"]
  f__law_digits : DefAt M "_law_digits" s__law_digits ["_law_rng", "_law_base", "_law_most"]
  f__law_lowest : DefAt M "_law_lowest" s__law_lowest ["_law_above", "_law_below"]
  f__law_ends : DefAt M "_law_ends" s__law_ends ["_law_base", "_law_digits_here"]
  f_are_digits : DefAt M "are_digits" s_are_digits ["base", "digits"]
  f_DigitSet____init__ : IDefAt M "DigitSet" "DigitSet.__init__" s_DigitSet____init__ ["self", "base", "digits"]
  f__law_set : DefAt M "_law_set" s__law_set ["_law_base", "_law_digits_here"]
  f__law_plus : DefAt M "_law_plus" s__law_plus ["_law_one", "_law_other"]
  f__law_times : DefAt M "_law_times" s__law_times ["_law_one", "_law_other"]
  f__law_minus : DefAt M "_law_minus" s__law_minus ["_law_one", "_law_other"]
  f__law_in_interval : DefAt M "_law_in_interval" s__law_in_interval ["_law_rng", "_law_ends_here", "_law_parts"]
  f__law_less : DefAt M "_law_less" s__law_less ["_law_one", "_law_other"]
  f__law_inside : DefAt M "_law_inside" s__law_inside ["_law_low", "_law_number", "_law_high"]
  f__law_same : DefAt M "_law_same" s__law_same ["_law_found", "_law_due"]
  f_is_less : DefAt M "is_less" s_is_less ["one", "other"]
  f_is_between : DefAt M "is_between" s_is_between ["low", "value", "high"]
  f_common_divisor : DefAt M "common_divisor" s_common_divisor ["one", "other"]
  f_fraction : DefAtD M "fraction" s_fraction ["numerator", "denominator"] [V.int 1]
  f_DigitSet__high : MDefAt M "DigitSet" "high" "DigitSet.high" s_DigitSet__high ["self"]
  f_DigitSet__low : MDefAt M "DigitSet" "low" "DigitSet.low" s_DigitSet__low ["self"]
  f_multiply : DefAt M "multiply" s_multiply ["one", "other"]
  f_subtract : DefAt M "subtract" s_subtract ["one", "other"]
  f_DigitSet__first_digit : MDefAt M "DigitSet" "first_digit" "DigitSet.first_digit" s_DigitSet__first_digit ["self", "number"]
  f_DigitSet__row_of : MDefAt M "DigitSet" "row_of" "DigitSet.row_of" s_DigitSet__row_of ["self", "number", "count"]
  f_law : DefAtL M "law" s_law ["_law_script"] c Pt
  o : OutAt M s__law_outcome s__law_field okE m__law_field
  tg : DefAt M "_law_tag" s__law_tag ["_law_ask"]
def all__law_begin {P : Program} {w : World} {base : Heap} {M : Mx} {c Pt : Addr} (T : Tx M w) (D : Ax M c Pt) : Cal P w base M "_law_begin" 1 1 m__law_begin := cal__law_begin T D.f__law_begin 
def all__law_draw {P : Program} {w : World} {base : Heap} {M : Mx} {c Pt : Addr} (T : Tx M w) (D : Ax M c Pt) : Cal P w base M "_law_draw" 1 2 m__law_draw := cal__law_draw T D.f__law_draw 
def all__law_pick {P : Program} {w : World} {base : Heap} {M : Mx} {c Pt : Addr} (T : Tx M w) (D : Ax M c Pt) : Cal P w base M "_law_pick" 2 2 m__law_pick := cal__law_pick T D.f__law_pick (all__law_draw T D)
def all__law_are_digits {P : Program} {w : World} {base : Heap} {M : Mx} {c Pt : Addr} (T : Tx M w) (D : Ax M c Pt) : Cal P w base M "_law_are_digits" 1 2 m__law_are_digits := cal__law_are_digits T D.f__law_are_digits 
def all__law_digits {P : Program} {w : World} {base : Heap} {M : Mx} {c Pt : Addr} (T : Tx M w) (D : Ax M c Pt) : Cal P w base M "_law_digits" 3 3 m__law_digits := cal__law_digits T D.f__law_digits (all__law_draw T D) (all__law_pick T D) (all__law_are_digits T D)
def all__law_lowest {P : Program} {w : World} {base : Heap} {M : Mx} {c Pt : Addr} (T : Tx M w) (D : Ax M c Pt) : Cal P w base M "_law_lowest" 1 2 m__law_lowest := cal__law_lowest T D.f__law_lowest 
def all__law_ends {P : Program} {w : World} {base : Heap} {M : Mx} {c Pt : Addr} (T : Tx M w) (D : Ax M c Pt) : Cal P w base M "_law_ends" 2 2 m__law_ends := cal__law_ends T D.f__law_ends (all__law_lowest T D)
def all_are_digits {P : Program} {w : World} {base : Heap} {M : Mx} {c Pt : Addr} (T : Tx M w) (D : Ax M c Pt) : Cal P w base M "are_digits" 1 2 m_are_digits := cal_are_digits T D.f_are_digits 
def all_DigitSet____init__ {P : Program} {w : World} {base : Heap} {M : Mx} {c Pt : Addr} (T : Tx M w) (D : Ax M c Pt) : ICal P w base M "DigitSet" 3 3 m_DigitSet____init__ := cal_DigitSet____init__ T D.f_DigitSet____init__ (all_are_digits T D)
def all__law_set {P : Program} {w : World} {base : Heap} {M : Mx} {c Pt : Addr} (T : Tx M w) (D : Ax M c Pt) : Cal P w base M "_law_set" 5 2 m__law_set := cal__law_set T D.f__law_set (all_DigitSet____init__ T D)
def all__law_plus {P : Program} {w : World} {base : Heap} {M : Mx} {c Pt : Addr} (T : Tx M w) (D : Ax M c Pt) : Cal P w base M "_law_plus" 2 2 m__law_plus := cal__law_plus T D.f__law_plus (all__law_lowest T D)
def all__law_times {P : Program} {w : World} {base : Heap} {M : Mx} {c Pt : Addr} (T : Tx M w) (D : Ax M c Pt) : Cal P w base M "_law_times" 2 2 m__law_times := cal__law_times T D.f__law_times (all__law_lowest T D)
def all__law_minus {P : Program} {w : World} {base : Heap} {M : Mx} {c Pt : Addr} (T : Tx M w) (D : Ax M c Pt) : Cal P w base M "_law_minus" 2 2 m__law_minus := cal__law_minus T D.f__law_minus (all__law_lowest T D)
def all__law_in_interval {P : Program} {w : World} {base : Heap} {M : Mx} {c Pt : Addr} (T : Tx M w) (D : Ax M c Pt) : Cal P w base M "_law_in_interval" 3 3 m__law_in_interval := cal__law_in_interval T D.f__law_in_interval (all__law_draw T D) (all__law_lowest T D) (all__law_plus T D) (all__law_times T D) (all__law_minus T D)
def all__law_less {P : Program} {w : World} {base : Heap} {M : Mx} {c Pt : Addr} (T : Tx M w) (D : Ax M c Pt) : Cal P w base M "_law_less" 1 2 m__law_less := cal__law_less T D.f__law_less 
def all__law_inside {P : Program} {w : World} {base : Heap} {M : Mx} {c Pt : Addr} (T : Tx M w) (D : Ax M c Pt) : Cal P w base M "_law_inside" 2 3 m__law_inside := cal__law_inside T D.f__law_inside (all__law_less T D)
def all__law_same {P : Program} {w : World} {base : Heap} {M : Mx} {c Pt : Addr} (T : Tx M w) (D : Ax M c Pt) : Cal P w base M "_law_same" 8 2 (m__law_same 8) := cal__law_same T D.f__law_same 
def all_is_less {P : Program} {w : World} {base : Heap} {M : Mx} {c Pt : Addr} (T : Tx M w) (D : Ax M c Pt) : Cal P w base M "is_less" 1 2 m_is_less := cal_is_less T D.f_is_less 
def all_is_between {P : Program} {w : World} {base : Heap} {M : Mx} {c Pt : Addr} (T : Tx M w) (D : Ax M c Pt) : Cal P w base M "is_between" 2 3 m_is_between := cal_is_between T D.f_is_between (all_is_less T D)
def all_common_divisor {P : Program} {w : World} {base : Heap} {M : Mx} {c Pt : Addr} (T : Tx M w) (D : Ax M c Pt) : Cal P w base M "common_divisor" 1 2 m_common_divisor := cal_common_divisor T D.f_common_divisor 
def all_fraction {P : Program} {w : World} {base : Heap} {M : Mx} {c Pt : Addr} (T : Tx M w) (D : Ax M c Pt) : Cal P w base M "fraction" 3 2 m_fraction := cal_fraction T D.f_fraction (all_common_divisor T D)
def all_DigitSet__high {P : Program} {w : World} {base : Heap} {M : Mx} {c Pt : Addr} (T : Tx M w) (D : Ax M c Pt) : MCal P w base M "DigitSet" "high" 4 1 m_DigitSet__high := cal_DigitSet__high T D.f_DigitSet__high (all_fraction T D)
def all_DigitSet__low {P : Program} {w : World} {base : Heap} {M : Mx} {c Pt : Addr} (T : Tx M w) (D : Ax M c Pt) : MCal P w base M "DigitSet" "low" 4 1 m_DigitSet__low := cal_DigitSet__low T D.f_DigitSet__low (all_fraction T D)
def all_multiply {P : Program} {w : World} {base : Heap} {M : Mx} {c Pt : Addr} (T : Tx M w) (D : Ax M c Pt) : Cal P w base M "multiply" 4 2 m_multiply := cal_multiply T D.f_multiply (all_fraction T D)
def all_subtract {P : Program} {w : World} {base : Heap} {M : Mx} {c Pt : Addr} (T : Tx M w) (D : Ax M c Pt) : Cal P w base M "subtract" 4 2 m_subtract := cal_subtract T D.f_subtract (all_fraction T D)
def all_DigitSet__first_digit {P : Program} {w : World} {base : Heap} {M : Mx} {c Pt : Addr} (T : Tx M w) (D : Ax M c Pt) : MCal P w base M "DigitSet" "first_digit" 5 2 m_DigitSet__first_digit := cal_DigitSet__first_digit T D.f_DigitSet__first_digit (all_multiply T D) (all_DigitSet__high T D) (all_DigitSet__low T D) (all_subtract T D) (all_is_between T D)
def all_DigitSet__row_of {P : Program} {w : World} {base : Heap} {M : Mx} {c Pt : Addr} (T : Tx M w) (D : Ax M c Pt) : MCal P w base M "DigitSet" "row_of" 6 3 m_DigitSet__row_of := cal_DigitSet__row_of T D.f_DigitSet__row_of (all_is_between T D) (all_DigitSet__high T D) (all_DigitSet__low T D) (all_DigitSet__first_digit T D)
theorem all_law {P : Program} {w : World} {base : Heap} {M : Mx} {c Pt : Addr} (T : Tx M w) (D : Ax M c Pt) (tb : LamX.TabB base M.mg c Pt) : FnOk P w M.K M.mg base (L2.CX P w) 10 D.f_law.d.f D.f_law.d.fd ["_law_script"] (spD M 1 m_law) := ok_law T D.f_law tb (all__law_begin T D) (all__law_draw T D) (all__law_digits T D) (all__law_ends T D) (all__law_set T D) (all__law_pick T D) (all__law_in_interval T D) (all__law_times T D) (all__law_inside T D) (all__law_minus T D) (all__law_same T D) (all_DigitSet__row_of T D) (all__law_plus T D) (all_DigitSet____init__ T D) D.o D.tg
end
end Kx


/- part -/
set_option Elab.async false
set_option linter.all false
set_option maxRecDepth 100000
set_option maxHeartbeats 1000000
namespace Kx
open PySem DL PyProof.Rows
/-! ### the draws -/
def rngL (cs : List Int) (p b s : Int) : List D := [.lst (cs.map .int), .int p, .int b, .int s]
def RngOk (r : List D) : Prop := ∃ (cs : List Int) (p b s : Int), r = rngL cs p b s ∧ 0 ≤ p ∧ 0 ≤ b ∧ 0 ≤ s ∧ s < 2147483549
theorem l2 {i : Int} {k : Nat} (h : i.natAbs < 2 ^ k) (hk : 0 < k) : i.natAbs.log2 < k := log2_lt h hk
theorem pow_ten : powD (.int 10) (.int 18) = some (.im (.int 1000000000000000000)) := by rfl
theorem seq_nx {s t : DM Fl} {ρ ρ1 : SE} {f : Fl} {ρ2 : SE} (h1 : s ρ = .ok .nx ρ1) (h2 : t ρ1 = .ok f ρ2) : sSeq s t ρ = .ok f ρ2 := by
  unfold sSeq
  rw [h1]
  exact h2
theorem ixN41 : L2.ixN 4 1 = some 1 := rfl
theorem ixN42 : L2.ixN 4 2 = some 2 := rfl
theorem ixN43 : L2.ixN 4 3 = some 3 := rfl
theorem fin_draw (s n : Int) (hn : 0 < n) : ∃ k : Int, 0 ≤ k ∧ k < n ∧ k = (s.fdiv 67 + s.fmod 7919 * 211).fmod n := ⟨_, Int.fmod_nonneg_of_pos _ hn, Int.fmod_lt_of_pos _ hn, rfl⟩
theorem w1 : Sml 44111 := by unfold Sml; decide +kernel
theorem w2 : Sml 70001 := by unfold Sml; decide +kernel
theorem w3 : Sml 40699 := by unfold Sml; decide +kernel
theorem w4 : Sml 211 := by unfold Sml; decide +kernel
theorem w5 : Dvs 67 := ⟨by decide, by decide +kernel⟩
theorem w6 : Sml 40009 := by unfold Sml; decide +kernel
theorem draw_ok {r : List D} {n : Int} (hr : RngOk r) (hn : 0 < n) (hb : n < 10 ^ 60) : ∃ (k : Int) (r' : List D), 0 ≤ k ∧ k < n ∧ RngOk r' ∧ m__law_draw [.ow true (.ls r), .im (.int n)] = .ok (.im (.int k)) [.ow true (.ls r'), .im (.int n)] := by
  obtain ⟨cs, p, b, s, rfl, hp, hb0, hs0, hs1⟩ := hr
  have n0 : n ≠ 0 := by omega
  have nl : Dvs n := .of n0 (k := 200) (by omega) (by decide) (by decide)
  have sl : Sml s := .of (k := 32) (by omega) (by decide) (by decide)
  have step : ∀ x : Int, 0 ≤ x.fmod 2147483549 ∧ x.fmod 2147483549 < 2147483549 := fun x => ⟨Int.fmod_nonneg_of_pos _ (by decide), Int.fmod_lt_of_pos _ (by decide)⟩
  have sm : ∀ x : Int, 0 ≤ x → x < 2 ^ 64 → Sml x := fun x h1 h2 => .of (k := 64) (by omega) (by decide) (by decide)
  by_cases hA : b = 0 ∧ p < cs.length
  · obtain ⟨rfl, hA2⟩ := hA
    obtain ⟨c, hc, _⟩ := atI_in hp hA2
    have hc' : L2.atI (cs.map D.int) p = some (.int c) := by
      rw [atI_map, hc]
      rfl
    by_cases hC : 1000000000000000000 ≤ c
    · refine ⟨c.fmod n, rngL cs (p + 1) (c.fdiv n) s, Int.fmod_nonneg_of_pos _ hn, Int.fmod_lt_of_pos _ hn, ⟨cs, p + 1, _, s, rfl, by omega, Int.fdiv_nonneg (by omega) (by omega), hs0, hs1⟩, ?_⟩
      have c0 : 0 < c := by omega
      simp [m__law_draw, mFn, b__law_draw, sSeq, sIf, dAndT, dOp2, dOp1, dVar, dC, dCb, vCons, vNil, sSub, dFz, sSet, stow, sRet, sPass, mRet, outs, out1, rngL, look, asSV, n0, nl, ixN41, ixN42, ixN43, fz, pow_ten, hc', hC, hA2, c0]
    · have m1 := step c
      have e1 : Sml (s * 44111) := sm _ (by omega) (by omega)
      have e2 : Sml (c.fmod 2147483549) := sm _ (by omega) (by omega)
      obtain ⟨s2, es2⟩ : ∃ s2, s2 = (s * 44111 + c.fmod 2147483549 * 70001 + 13).fmod 2147483549 := ⟨_, rfl⟩
      have m2 := step (s * 44111 + c.fmod 2147483549 * 70001 + 13)
      rw [← es2] at m2
      obtain ⟨s3, es3⟩ : ∃ s3, s3 = (s2 * (s2.fmod 65479 + 11) + s2 * 40699 + 70067).fmod 2147483549 := ⟨_, rfl⟩
      have m3 := step (s2 * (s2.fmod 65479 + 11) + s2 * 40699 + 70067)
      rw [← es3] at m3
      have q1 : 0 ≤ s2.fmod 65479 ∧ s2.fmod 65479 < 65479 := ⟨Int.fmod_nonneg_of_pos _ (by decide), Int.fmod_lt_of_pos _ (by decide)⟩
      have q2 : 0 ≤ s3.fmod 7919 ∧ s3.fmod 7919 < 7919 := ⟨Int.fmod_nonneg_of_pos _ (by decide), Int.fmod_lt_of_pos _ (by decide)⟩
      have g1 : Sml s2 := sm _ (by omega) (by omega)
      have g2 : Sml (s2.fmod 65479 + 11) := sm _ (by omega) (by omega)
      have g3 : Sml (s3.fmod 7919) := sm _ (by omega) (by omega)
      refine ⟨(s3.fdiv 67 + s3.fmod 7919 * 211).fmod n, rngL cs (p + 1) 0 s3, Int.fmod_nonneg_of_pos _ hn, Int.fmod_lt_of_pos _ hn, ⟨cs, p + 1, 0, s3, rfl, by omega, by omega, m3.1, m3.2⟩, ?_⟩
      simp [m__law_draw, mFn, b__law_draw, sSeq, sIf, dAndT, dOp2, dOp1, dVar, dC, dCb, vCons, vNil, sSub, dFz, sSet, stow, sRet, sPass, mRet, outs, out1, rngL, look, asSV, n0, nl, ixN41, ixN42, ixN43, fz, pow_ten, hc', hC, hA2, sl, e1, e2, w1, w2, w3, w4, w5, w6, ← es2, g1, g2, ← es3, g3]
  · by_cases hB : 0 < b
    · refine ⟨b.fmod n, rngL cs p (b.fdiv n) s, Int.fmod_nonneg_of_pos _ hn, Int.fmod_lt_of_pos _ hn, ⟨cs, p, _, s, rfl, hp, Int.fdiv_nonneg (by omega) (by omega), hs0, hs1⟩, ?_⟩
      have e0 : ¬ b = 0 := by omega
      simp [m__law_draw, mFn, b__law_draw, sSeq, sIf, dAndT, dOp2, dOp1, dVar, dC, dCb, vCons, vNil, sSub, dFz, sSet, stow, sRet, sPass, mRet, outs, out1, rngL, look, asSV, n0, nl, ixN41, ixN42, ixN43, fz, e0, hB]
    · obtain ⟨s3, es3⟩ : ∃ s3, s3 = (s * (s.fmod 65479 + 11) + s * 40699 + 70067).fmod 2147483549 := ⟨_, rfl⟩
      have m3 := step (s * (s.fmod 65479 + 11) + s * 40699 + 70067)
      rw [← es3] at m3
      have q1 : 0 ≤ s.fmod 65479 ∧ s.fmod 65479 < 65479 := ⟨Int.fmod_nonneg_of_pos _ (by decide), Int.fmod_lt_of_pos _ (by decide)⟩
      have q2 : 0 ≤ s3.fmod 7919 ∧ s3.fmod 7919 < 7919 := ⟨Int.fmod_nonneg_of_pos _ (by decide), Int.fmod_lt_of_pos _ (by decide)⟩
      have g2 : Sml (s.fmod 65479 + 11) := sm _ (by omega) (by omega)
      have g3 : Sml (s3.fmod 7919) := sm _ (by omega) (by omega)
      have b0 : b = 0 := by omega
      subst b0
      have nA : ¬ p < cs.length := fun z => hA ⟨rfl, z⟩
      refine ⟨(s3.fdiv 67 + s3.fmod 7919 * 211).fmod n, rngL cs p 0 s3, Int.fmod_nonneg_of_pos _ hn, Int.fmod_lt_of_pos _ hn, ⟨cs, p, 0, s3, rfl, hp, by omega, m3.1, m3.2⟩, ?_⟩
      simp [m__law_draw, mFn, b__law_draw, sSeq, sIf, dAndT, dOp2, dOp1, dVar, dC, dCb, vCons, vNil, sSub, dFz, sSet, stow, sRet, sPass, mRet, outs, out1, rngL, look, asSV, n0, nl, ixN41, ixN42, ixN43, fz, nA, sl, w1, w2, w3, w4, w5, w6, g2, ← es3, g3]
theorem begin_ok {ns : List Int} (h : ns.length ≤ 63) : ∃ r, RngOk r ∧ m__law_begin [.im (.scr ns)] = .ok (.ow (.ls r)) [.im (.scr ns)] := by
  have sm : ∀ x : Int, 0 ≤ x → x < 2 ^ 64 → Sml x := fun x h1 h2 => .of (k := 64) (by omega) (by decide) (by decide)
  obtain ⟨ρ', e1, s, x, rfl, hs0, hs1, hx⟩ := floop_inv (gm := tgName 2) (b := sSet 1 (dOp2 modD (dOp2 addD (dOp2 addD (dOp2 mulD (dVar 1) (dC (.int 40009))) (dOp2 modD (dVar 2) (dC (.int 2147483549)))) (dC (.int 31))) (dC (.int 2147483549))))
    (I := fun ρ => ∃ (s : Int) (x : SV), ρ = [.im (.scr ns), .im (.int s), x] ∧ 0 ≤ s ∧ s < 2147483549 ∧ ∀ oc, x ≠ .ow true oc) (ds := ns.map D.int) (ρ := [.im (.scr ns), .im (.int (9491 + (ns.length : Int))), .no]) (by
      rintro d hd ρ ⟨s, x, rfl, h0, h1, hx⟩
      obtain ⟨c, _, rfl⟩ := List.mem_map.mp hd
      have e1 := sm s h0 (by omega)
      refine ⟨[.im (.scr ns), .im (.int s), .im (.int c)], .nx, [.im (.scr ns), .im (.int ((s * 40009 + c.fmod 2147483549 + 31).fmod 2147483549)), .im (.int c)], ?_, ?_, .inl rfl, _, _, rfl, Int.fmod_nonneg_of_pos _ (by decide), Int.fmod_lt_of_pos _ (by decide), fun ds z => by cases z⟩
      · cases x with
        | no => simp [tgName, stow]
        | im d => simp [tgName, stow]
        | ow io ds =>
          cases io with
          | true => exact (hx ds rfl).elim
          | false => simp [tgName, stow]
      · simp [sSet, dOp2, dVar, dC, look, asSV, stow, e1, w6]) ⟨_, _, rfl, by omega, by omega, fun ds z => by cases z⟩
  refine ⟨rngL ns 0 0 s, ⟨ns, 0, 0, s, rfl, by decide, by decide, hs0, hs1⟩, ?_⟩
  simp [m__law_begin, mFn, b__law_begin, sSeq, sSet, dOp2, dVar, dC, dCb, vCons, vNil, dSl, oNone, oSome, asPart, look, asSV, stow, sFor, iSeq, iSeqs, dFz, fz, cut63 h, e1, sRet, dLst, aCons, aNil, avD, mRet, outs, out1, rngL]
section
variable {r ds : List D} {n : Int} {Q : RV → SE → Prop} {E : Exc → SE → Prop}
theorem draw_wp (hr : RngOk r) (h0 : 0 < n) (h1 : n < 10 ^ 60) (k : ∀ (k : Int) r', 0 ≤ k → k < n → RngOk r' → Q (.im (.int k)) [.ow true (.ls r'), .im (.int n)]) : WP (m__law_draw [.ow true (.ls r), .im (.int n)]) Q E := by
  obtain ⟨i, r', a, b, c, e⟩ := draw_ok hr h0 h1
  exact .of e (k i r' a b c)
theorem begin_wp {ns : List Int} (h : ns.length ≤ 63) (k : ∀ r, RngOk r → Q (.ow (.ls r)) [.im (.scr ns)]) : WP (m__law_begin [.im (.scr ns)]) Q E := by
  obtain ⟨r, a, e⟩ := begin_ok h
  exact .of e (k r a)
theorem pick_wp (hr : RngOk r) (hd : 0 < ds.length) (hb : ds.length ≤ 1000000) (k : ∀ d r', d ∈ ds → RngOk r' → Q (.im d) [.ow true (.ls r'), .im (.lst ds)]) : WP (m__law_pick [.ow true (.ls r), .im (.lst ds)]) Q E := by
  refine wp_fn ?_
  simp [b__law_pick]
  refine draw_wp hr (by omega) (by omega) fun i r' h0 h1 hr' => ?_
  obtain ⟨d, e2, hm⟩ := atI_in h0 h1
  simp [e2]
  exact k d r' hm hr'
end
end Kx

/- part -/
set_option Elab.async false
set_option linter.all false
set_option maxRecDepth 100000
set_option maxHeartbeats 1000000
namespace Kx
open PySem DL PyProof.Rows
theorem gAbs_int (i : Int) : gAbs [.int i] = some (.im (.int ((i.natAbs : Nat) : Int))) := by
  show some (RV.im (.int (if i < 0 then -i else i))) = _
  congr 3
  split <;> omega
theorem inD_strs (x : Str) (ys : List Str) : inD false (.str x) (.tup (ys.map D.str)) = some (.im (.bl (ys.any fun y => y == x))) := by
  have fl : (ys.map D.str).all flat = true := by
    rw [List.all_map]
    exact List.all_eq_true.mpr fun _ _ => rfl
  show (if (flat (.str x) && (ys.map D.str).all flat) = true then some (RV.im (.bl (false != (ys.map D.str).any fun y => eqv y (.str x)))) else none) = _
  rw [fl, if_pos (by rfl), List.any_map, Bool.false_bne]
  rfl
theorem app_ok {ds : List D} {d : D} (h : ds.length < 1000000) : gAppend ds [d] = some (.non, ds ++ [d]) := if_pos h
/-! ### the fractions -/

theorem fm_nat (m n : Nat) : (m : Int).fmod (n : Int) = ((m % n : Nat) : Int) := by
  rw [Int.fmod_eq_emod_of_nonneg _ (Int.natCast_nonneg n)]
  first
    | rfl
    | exact (Int.natCast_emod m n).symm
    | exact (Int.natCast_mod m n).symm
theorem while_stop {c : DM Bool} {b : DM Fl} {ρ ρ1 : SE} (h : c ρ = .ok false ρ1) : sWhile c b ρ = .ok .nx ρ1 := by
  rw [sWhile_eq, h]
  rfl
theorem while_go {c : DM Bool} {b : DM Fl} {ρ ρ1 ρ2 : SE} {r : R Fl} (h : c ρ = .ok true ρ1) (hb : b ρ1 = .ok .nx ρ2) (hr : sWhile c b ρ2 = r) : sWhile c b ρ = r := by
  rw [sWhile_eq, h, bind_okA, if_pos rfl, hb, bind_okA]
  exact hr
theorem gcd_step (m n : Nat) : Nat.gcd n (m % n) = Nat.gcd m n := by rw [Nat.gcd_comm n, ← Nat.gcd_rec, Nat.gcd_comm]
theorem cd_loop : ∀ (n m : Nat), sWhile (fun ρ => (dOp2 neD (dVar 1) (dC (.int 0)) ρ).bind asB) (sPar 0 1 (aCons (dVar 1) (aCons (dOp2 modD (dVar 0) (dVar 1)) (aNil)))) [.im (.int m), .im (.int n)] = .ok .nx [.im (.int (Nat.gcd m n)), .im (.int 0)] := by
  intro n
  induction n using Nat.strongRecOn with
  | ind n ih =>
    intro m
    by_cases h : n = 0
    · subst h
      rw [Nat.gcd_zero_right]
      exact while_stop (by simp [dOp2, dVar, dC, look])
    · have hn : (n : Int) ≠ 0 := by omega
      refine while_go (ρ2 := [.im (.int (n : Int)), .im (.int ((m % n : Nat) : Int))]) (ρ1 := [.im (.int m), .im (.int n)]) (by simp [dOp2, dVar, dC, look, h]) ?_ ((ih (m % n) (Nat.mod_lt _ (by omega)) n).trans (by rw [gcd_step]))
      have hm : modD (.int (m : Int)) (.int (n : Int)) = some (.im (.int ((m % n : Nat) : Int))) := by rw [modD_A hn, fm_nat]
      simp [dOp2, dVar, look, sPar, aCons, aNil, dFz, stow, hm]
theorem lo_loop (A B : SV) : ∀ (n m : Nat), sWhile (fun ρ => (dOp2 neD (dVar 3) (dC (.int 0)) ρ).bind asB) (sPar 2 3 (aCons (dVar 3) (aCons (dOp2 modD (dVar 2) (dVar 3)) (aNil)))) [A, B, .im (.int m), .im (.int n)] = .ok .nx [A, B, .im (.int (Nat.gcd m n)), .im (.int 0)] := by
  intro n
  induction n using Nat.strongRecOn with
  | ind n ih =>
    intro m
    by_cases h : n = 0
    · subst h
      rw [Nat.gcd_zero_right]
      exact while_stop (by simp [dOp2, dVar, dC, look])
    · have hn : (n : Int) ≠ 0 := by omega
      refine while_go (ρ2 := [A, B, .im (.int (n : Int)), .im (.int ((m % n : Nat) : Int))]) (ρ1 := [A, B, .im (.int m), .im (.int n)]) (by simp [dOp2, dVar, dC, look, h]) ?_ ((ih (m % n) (Nat.mod_lt _ (by omega)) n).trans (by rw [gcd_step]))
      have hm : modD (.int (m : Int)) (.int (n : Int)) = some (.im (.int ((m % n : Nat) : Int))) := by rw [modD_A hn, fm_nat]
      simp [dOp2, dVar, look, sPar, aCons, aNil, dFz, stow, hm]
/-- what both make of a pair, b ≠ 0 -/
def gI (a b : Int) : Int := (Nat.gcd a.natAbs b.natAbs : Nat)
def nI (a b : Int) : Int := if b < 0 then 0 - a else a
def dI (b : Int) : Int := if b < 0 then 0 - b else b
def frD (a b : Int) : D := .tup [.int ((nI a b).fdiv (gI a b)), .int ((dI b).fdiv (gI a b))]
theorem gI_dvs {a b : Int} (hb : b ≠ 0) (hz : b.natAbs < 2 ^ 4000) : Dvs (gI a b) := by
  have h0 : 0 < Nat.gcd a.natAbs b.natAbs := Nat.gcd_pos_of_pos_right _ (by omega)
  have h1 : Nat.gcd a.natAbs b.natAbs ≤ b.natAbs := Nat.gcd_le_right _ (by omega)
  refine .of (k := 4000) ?_ ?_ (by decide) (by decide)
  · show ((Nat.gcd a.natAbs b.natAbs : Nat) : Int) ≠ 0
    omega
  · show ((Nat.gcd a.natAbs b.natAbs : Nat) : Int).natAbs < 2 ^ 4000
    omega
theorem abs_nI {a b : Int} : (((nI a b).natAbs : Nat) : Int) = ((a.natAbs : Nat) : Int) := by
  unfold nI
  split <;> omega
theorem dI_nat {b : Int} : dI b = ((b.natAbs : Nat) : Int) := by
  unfold dI
  split <;> omega
theorem cd_ok (m n : Nat) : m_common_divisor [.im (.int m), .im (.int n)] = .ok (.im (.int (Nat.gcd m n))) [.im (.int m), .im (.int n)] := by
  have e := seq_nx (cd_loop n m) (show sRet (dVar 0) [.im (.int (Nat.gcd m n)), .im (.int 0)] = .ok (.rt (.im (.int (Nat.gcd m n)))) [.im (.int (Nat.gcd m n)), .im (.int 0)] from rfl)
  show (match b_common_divisor [.im (.int m), .im (.int n)] with
    | .bad => (R.bad : R RV)
    | .ok f ρ => mRet [.im (.int m), .im (.int n)] f ρ
    | .ex e ρ => .ex e (outs [.im (.int m), .im (.int n)] ρ)) = _
  rw [show b_common_divisor [.im (.int m), .im (.int n)] = _ from e]
  rfl
theorem frac_ok {a b : Int} (hb : b ≠ 0) (hz : b.natAbs < 2 ^ 4000) : m_fraction [.im (.int a), .im (.int b)] = .ok (.im (frD a b)) [.im (.int a), .im (.int b)] := by
  have dv := gI_dvs (a := a) hb hz
  have e3 : sSet 2 (dCall 2 [] m_common_divisor (aCons (dCb gAbs (vCons (dVar 0) (vNil))) (aCons (dVar 1) (aNil)))) [.im (.int (nI a b)), .im (.int (dI b)), .no] = .ok .nx [.im (.int (nI a b)), .im (.int (dI b)), .im (.int (gI a b))] := by
    have e := cd_ok a.natAbs b.natAbs
    rw [(abs_nI (a := a) (b := b)).symm, (dI_nat (b := b)).symm] at e
    simp [sSet, dCall, aCons, aNil, dFz, dCb, vCons, vNil, dVar, look, gAbs_int, callR, iosOf, argSV, e, stow]
    rfl
  have e4 : sRet (dTup (aCons (dOp2 fdivD (dVar 0) (dVar 2)) (aCons (dOp2 fdivD (dVar 1) (dVar 2)) (aNil)))) [.im (.int (nI a b)), .im (.int (dI b)), .im (.int (gI a b))] = .ok (.rt (.im (frD a b))) [.im (.int (nI a b)), .im (.int (dI b)), .im (.int (gI a b))] := by
    simp [sRet, dTup, aCons, aNil, dFz, dOp2, dVar, look, dv, avD, frD]
  have e1 : sIf (fun ρ => (dOp2 eqD (dVar 1) (dC (.int 0)) ρ).bind asB) (sRaise0 "OutOfRange" "OutOfRange") (sPass) [.im (.int a), .im (.int b), .no] = .ok .nx [.im (.int a), .im (.int b), .no] := by
    simp [sIf, dOp2, dVar, dC, look, hb, sPass]
  have e2 : sIf (fun ρ => (dOp2 ltD (dVar 1) (dC (.int 0)) ρ).bind asB) (sPar 0 1 (aCons (dOp2 subD (dC (.int 0)) (dVar 0)) (aCons (dOp2 subD (dC (.int 0)) (dVar 1)) (aNil)))) (sPass) [.im (.int a), .im (.int b), .no] = .ok .nx [.im (.int (nI a b)), .im (.int (dI b)), .no] := by
    by_cases h : b < 0 <;> simp [sIf, dOp2, dVar, dC, look, h, sPass, nI, dI, sPar, aCons, aNil, dFz, stow]
  have e := seq_nx e1 (seq_nx e2 (seq_nx e3 e4))
  show (match b_fraction [.im (.int a), .im (.int b), .no] with
    | .bad => (R.bad : R RV)
    | .ok f ρ => mRet [.im (.int a), .im (.int b)] f ρ
    | .ex e ρ => .ex e (outs [.im (.int a), .im (.int b)] ρ)) = _
  rw [show b_fraction [.im (.int a), .im (.int b), .no] = _ from e]
  rfl
theorem frac_zero (a : Int) : ∃ ρ, m_fraction [.im (.int a), .im (.int 0)] = .ex ⟨"OutOfRange", [("tag", .str "OutOfRange")]⟩ ρ := by
  refine ⟨[.im (.int a), .im (.int 0)], ?_⟩
  simp [m_fraction, mFn, b_fraction, sSeq, sIf, dOp2, dVar, dC, look, sRaise0, outs, out1]
theorem low_ok {a b : Int} (hb : b ≠ 0) (hz : b.natAbs < 2 ^ 4000) : m__law_lowest [.im (.int a), .im (.int b)] = .ok (.im (frD a b)) [.im (.int a), .im (.int b)] := by
  have dv := gI_dvs (a := a) hb hz
  have e3 : sPar 2 3 (aCons (dCb gAbs (vCons (dVar 0) (vNil))) (aCons (dVar 1) (aNil))) [.im (.int (nI a b)), .im (.int (dI b)), .no, .no] = .ok .nx [.im (.int (nI a b)), .im (.int (dI b)), .im (.int ((a.natAbs : Nat) : Int)), .im (.int ((b.natAbs : Nat) : Int))] := by
    rw [(abs_nI (a := a) (b := b)).symm, (dI_nat (b := b)).symm]
    simp [sPar, aCons, aNil, dFz, dCb, vCons, vNil, dVar, look, gAbs_int, stow]
  have e4 := lo_loop (.im (.int (nI a b))) (.im (.int (dI b))) b.natAbs a.natAbs
  have e5 : sRet (dTup (aCons (dOp2 fdivD (dVar 0) (dVar 2)) (aCons (dOp2 fdivD (dVar 1) (dVar 2)) (aNil)))) [.im (.int (nI a b)), .im (.int (dI b)), .im (.int (gI a b)), .im (.int 0)] = .ok (.rt (.im (frD a b))) [.im (.int (nI a b)), .im (.int (dI b)), .im (.int (gI a b)), .im (.int 0)] := by
    simp [sRet, dTup, aCons, aNil, dFz, dOp2, dVar, look, dv, avD, frD]
  have e2 : sIf (fun ρ => (dOp2 ltD (dVar 1) (dC (.int 0)) ρ).bind asB) (sPar 0 1 (aCons (dOp2 subD (dC (.int 0)) (dVar 0)) (aCons (dOp2 subD (dC (.int 0)) (dVar 1)) (aNil)))) (sPass) [.im (.int a), .im (.int b), .no, .no] = .ok .nx [.im (.int (nI a b)), .im (.int (dI b)), .no, .no] := by
    by_cases h : b < 0 <;> simp [sIf, dOp2, dVar, dC, look, h, sPass, nI, dI, sPar, aCons, aNil, dFz, stow]
  have e := seq_nx e2 (seq_nx e3 (seq_nx e4 e5))
  show (match b__law_lowest [.im (.int a), .im (.int b), .no, .no] with
    | .bad => (R.bad : R RV)
    | .ok f ρ => mRet [.im (.int a), .im (.int b)] f ρ
    | .ex e ρ => .ex e (outs [.im (.int a), .im (.int b)] ρ)) = _
  rw [show b__law_lowest [.im (.int a), .im (.int b), .no, .no] = _ from e]
  rfl
end Kx

/- part -/
set_option Elab.async false
set_option linter.all false
set_option maxRecDepth 100000
set_option maxHeartbeats 1000000
namespace Kx
open PySem DL PyProof.Rows
/-! ### digit sets -/
def fstI (ns : List Int) : Int := ns.getD 0 0
def lstI (ns : List Int) : Int := ns.getD (ns.length - 1) 0
def wdI (ns : List Int) : Int := lstI ns - fstI ns
def gapB (b : Int) (ns : List Int) : List Bool := (ns.zip ns.tail).map fun p => decide ((p.2 - p.1) * (b - 1) ≤ wdI ns)
theorem zip_ints (ns ms : List Int) : zipD (ns.map D.int) (ms.map D.int) = (ns.zip ms).map fun p => D.tup [.int p.1, .int p.2] := by
  unfold zipD
  rw [List.zipWith_map, List.zip, List.map_zipWith]
theorem sml {i : Int} (h1 : -(2 ^ 64) ≤ i) (h2 : i ≤ 2 ^ 64) : Sml i := .of (k := 65) (by omega) (by decide) (by decide)
theorem ints_len (ns : List Int) : (ns.map D.int).length = ns.length := List.length_map _
theorem at_fst {ns : List Int} (h : 0 < ns.length) : L2.atI (ns.map D.int) 0 = some (.int (fstI ns)) := by
  cases ns with
  | nil => cases h
  | cons n ns => simp [fstI]
theorem at_nat {ns : List Int} {i : Nat} (h : i < ns.length) : L2.atI (ns.map D.int) (i : Int) = some (.int (ns.getD i 0)) := by
  refine L2.atI_nat ?_
  rw [List.getElem?_map, List.getElem?_eq_getElem h]
  simp [List.getD, List.getElem?_eq_getElem h]
theorem at_lst {ns : List Int} (h : 0 < ns.length) : L2.atI (ns.map D.int) (-1) = some (.int (lstI ns)) := by
  have e : L2.ixN (ns.map D.int).length (-1) = some (ns.length - 1) := by
    unfold L2.ixN
    rw [List.length_map]
    simp
    omega
  unfold L2.atI
  rw [e]
  have := List.getElem?_eq_getElem (l := ns) (i := ns.length - 1) (by omega)
  simp [lstI, List.getD, this]
theorem are_ok {b : Int} {ns : List Int} (h2 : 2 ≤ ns.length) (h24 : ns.length ≤ 24) (ha : ∀ d ∈ ns, -99 ≤ d ∧ d ≤ 99) (hb : 2 ≤ b) (hb2 : b ≤ 10) : m_are_digits [.im (.int b), .im (.lst (ns.map D.int))] = .ok (.im (.bl ((gapB b ns).all id))) [.im (.int b), .im (.lst (ns.map D.int))] := by
  refine Wp.eq (wp_fn ?_)
  have i1 : (2 : Int) ≤ ns.length := by omega
  have i2 : (ns.length : Int) ≤ 24 := by omega
  simp [b_are_digits, i1, i2]
  refine wp_cmap (fun _ => .bl true) rfl (by simp; omega) (fun d hd => ?_) fun ys hy => ?_
  · obtain ⟨n, hn, rfl⟩ := List.mem_map.mp hd
    have := ha n hn
    have h3 : ((n.natAbs : Nat) : Int) ≤ 99 := by omega
    simp [gAbs_int, h3, rest]
  · have g0 := at_fst (ns := ns) (by omega)
    have g1 := at_lst (ns := ns) (by omega)
    have ge : gAll [.lst ys] = some (.im (.bl true)) := by
      rw [gAll_of (bs := ns.map fun _ => true) (by rw [hy, List.map_map, List.map_map]; rfl)]
      simp
    simp [ge, g0, g1]
    rw [← List.map_tail, zip_ints]
    refine wp_cmap (fun d => match d with | .tup [.int x, .int y] => .bl (decide ((y - x) * (b - 1) ≤ wdI ns)) | _ => .non) rfl (by simp; omega) (fun d hd => ?_) fun ys hy => ?_
    · obtain ⟨⟨x, y⟩, hp, rfl⟩ := List.mem_map.mp hd
      have a1 := ha x (List.of_mem_zip hp).1
      have a2 := ha y (List.mem_of_mem_tail (List.of_mem_zip hp).2)
      have s1 : Sml (y - x) := sml (by omega) (by omega)
      have s2 : Sml (b - 1) := sml (by omega) (by omega)
      simp [s1, s2, rest, wdI]
      rfl
    · have ge2 : gAll [.lst ys] = some (.im (.bl ((gapB b ns).all id))) := gAll_of (by rw [hy, gapB, List.map_map, List.map_map]; rfl)
      simp [ge2]

theorem asc_nodup {ns : List Int} (h : ns.Pairwise (· < ·)) : ns.Nodup := h.imp fun h => by omega
theorem ded_id {ns : List Int} (h : ns.Nodup) : dedI ns = ns := by
  have := RZ.firstMet_nodup h ns.length (Nat.le_refl _)
  rw [List.take_length] at this
  rw [← firstMet_all, this]
theorem getD_mem {ns : List Int} {i : Nat} (h : i < ns.length) : ns.getD i 0 ∈ ns := by
  rw [List.getD_eq_getElem?_getD, List.getElem?_eq_getElem h]
  exact List.getElem_mem h
theorem lawgap {b : Int} (ns : List Int) : ((List.range (ns.length - 1)).map fun i => decide ((ns.getD (i + 1) 0 - ns.getD i 0) * (b - 1) ≤ lstI ns - fstI ns)) = gapB b ns := by
  unfold gapB wdI
  refine List.ext_getElem (by simp) fun i h1 h2 => ?_
  have h3 : i < ns.length - 1 := by simpa using h1
  have e1 : ns[i + 1]? = some (ns[i + 1]'(by omega)) := List.getElem?_eq_getElem _
  have e2 : ns[i]? = some (ns[i]'(by omega)) := List.getElem?_eq_getElem _
  simp [List.getD_eq_getElem?_getD, e1, e2]
theorem lare_ok {b : Int} {ns : List Int} (h : ns.Pairwise (· < ·)) (h2 : 2 ≤ ns.length) (h24 : ns.length ≤ 24) (ha : ∀ d ∈ ns, -99 ≤ d ∧ d ≤ 99) (hb : 2 ≤ b) (hb2 : b ≤ 10) : m__law_are_digits [.im (.int b), .im (.lst (ns.map D.int))] = .ok (.im (.bl ((gapB b ns).all id))) [.im (.int b), .im (.lst (ns.map D.int))] := by
  refine Wp.eq (wp_fn ?_)
  have i1 : (2 : Int) ≤ ns.length := by omega
  have i2 : (ns.length : Int) ≤ 24 := by omega
  have e1 : sortI ns = ns := sortI_id (h.imp fun h => by omega)
  have e2 : dedI ns = ns := ded_id (asc_nodup h)
  have i3 : ns.length ≤ 4000 := by omega
  have g0 := at_fst (ns := ns) (by omega)
  have g1 := at_lst (ns := ns) (by omega)
  have q0 := ha _ (getD_mem (ns := ns) (i := 0) (by omega))
  have q1 := ha _ (getD_mem (ns := ns) (i := ns.length - 1) (by omega))
  have q2 : ¬ 99 < ((fstI ns).natAbs : Int) := by unfold fstI; omega
  have q3 : ¬ 99 < ((lstI ns).natAbs : Int) := by unfold lstI; omega
  have q4 : rngOk ((ns.length : Int) - 1) = true := rngOk_of (by omega) (by omega)
  simp [b__law_are_digits, i1, i2, i3, e1, e2, g0, g1, q2, q3, q4]
  refine wp_cmap (fun d => match d with | .int i => .bl (decide ((ns.getD (i.toNat + 1) 0 - ns.getD i.toNat 0) * (b - 1) ≤ lstI ns - fstI ns)) | _ => .non) rfl (by simp; omega) (fun d hd => ?_) fun ys hy => ?_
  · obtain ⟨i, hi, rfl⟩ := List.mem_map.mp hd
    have hi := List.mem_range.mp hi
    have a0 := at_nat (ns := ns) (i := i) (by omega)
    have a1 : L2.atI (ns.map D.int) ((i : Int) + 1) = some (.int (ns.getD (i + 1) 0)) := at_nat (ns := ns) (i := i + 1) (by omega)
    have p0 := ha _ (getD_mem (ns := ns) (i := i) (by omega))
    have p1 := ha _ (getD_mem (ns := ns) (i := i + 1) (by omega))
    have s1 : Sml (ns.getD (i + 1) 0 - ns.getD i 0) := sml (by omega) (by omega)
    have s2 : Sml (b - 1) := sml (by omega) (by omega)
    simp only [List.getD_eq_getElem?_getD] at a0 a1 s1
    simp [g0, g1, a0, a1, s1, s2, rest]
  · have ge2 : gAll [.lst ys] = some (.im (.bl ((gapB b ns).all id))) := gAll_of (by
      rw [hy, ← lawgap]
      simp)
    simp [ge2]
/-- ascending digits that are a digit set -/
structure Dg (b : Int) (ns : List Int) : Prop where
  b2 : 2 ≤ b
  b10 : b ≤ 10
  asc : ns.Pairwise (· < ·)
  len2 : 2 ≤ ns.length
  len : ns.length ≤ 24
  ab : ∀ d ∈ ns, -99 ≤ d ∧ d ≤ 99
  gaps : (gapB b ns).all id = true
def dsF (b : Int) (ns : List Int) : List (Str × D) := [("base", .int b), ("digits", .tup (ns.map D.int))]
theorem db_ne : (("base" : Str) = "digits") = False := by
  rw [eq_iff_iff]
  exact ⟨fun h => absurd h (by decide +kernel), False.elim⟩
theorem init_ok {b : Int} {ns : List Int} {src : D} (h : Dg b ns) (hs : gSorted [unl src] = some (.ow (.ls (ns.map D.int)))) : m_DigitSet____init__ [.ow true (.ob "DigitSet" []), .im (.int b), .im src] = .ok (.im .non) [.ow true (.ob "DigitSet" (dsF b ns)), .im (.int b), .im src] := by
  obtain ⟨h1, h2, h3, h4, h5, h6, h7⟩ := h
  refine Wp.eq (wp_fn ?_)
  have e2 : dedI ns = ns := ded_id (asc_nodup h3)
  have i3 : ns.length ≤ 4000 := by omega
  have e3 := are_ok h4 h5 h6 h1 h2
  rw [h7] at e3
  simp [b_DigitSet____init__, h1, h2, hs, i3, e2, e3, db_ne, dsF]
theorem make_ok {b : Int} {ns : List Int} {src : D} {ρ : SE} (h : Dg b ns) (hs : gSorted [unl src] = some (.ow (.ls (ns.map D.int)))) {Q : RV → SE → Prop} {E : Exc → SE → Prop} (k : Q (.ow (.ob "DigitSet" (dsF b ns))) ρ) : WP (makeR (m_DigitSet____init__ [.ow true (.ob "DigitSet" []), .im (.int b), .im src]) ρ) Q E := by
  rw [init_ok h hs]
  exact wpI k
/-! ### a thing is the same as itself -/
mutual
def sg : Nat → D → Bool
  | 0, _ => false
  | _ + 1, .non => true
  | _ + 1, .bl _ => true
  | _ + 1, .int _ => true
  | _ + 1, .str x => okc (.str x)
  | n + 1, .tup ds => decide (ds.length ≤ 1000000) && sgs n ds
  | n + 1, .lst ds => decide (ds.length ≤ 1000000) && sgs n ds
  | _ + 1, _ => false
def sgs : Nat → List D → Bool
  | _, [] => true
  | n, d :: r => sg n d && sgs n r
end
theorem sgs_mem {n : Nat} : ∀ {ds : List D}, sgs n ds = true → ∀ d ∈ ds, sg n d = true
  | d :: r, h, x, hx => by
    unfold sgs at h
    obtain ⟨h1, h2⟩ := Bool.and_eq_true_iff.mp h
    rcases List.mem_cons.mp hx with rfl | hx
    · exact h1
    · exact sgs_mem h2 x hx
theorem sgs_ints {n : Nat} : ∀ {ns : List Int}, sgs (n + 1) (ns.map D.int) = true
  | [] => by unfold sgs; rfl
  | k :: ns => by
    rw [List.map_cons]
    unfold sgs
    rw [sgs_ints]
    unfold sg
    rfl
theorem zip_self {ds : List D} {x y : D} (h : D.tup [x, y] ∈ zipD ds ds) : x = y ∧ x ∈ ds := by
  obtain ⟨i, hi⟩ := List.mem_iff_getElem?.mp h
  obtain ⟨a, b, h1, h2, e⟩ := DL.zip_get hi
  rw [h1] at h2
  cases h2
  cases e
  exact ⟨rfl, List.mem_of_getElem? h1⟩
theorem same_self : ∀ (n : Nat) (d : D), sg n d = true → m__law_same n [.im d, .im d] = .ok (.im (.bl true)) [.im d, .im d]
  | 0, d, h => by
    unfold sg at h
    cases h
  | n + 1, d, h => by
    have seq : ∀ ds : List D, ds.length ≤ 1000000 → sgs n ds = true → ∀ (a b : SV), cLoop [2, 3] (tgTup 2 (tgCons (tgName 2) (tgCons (tgName 3) tgNil))) tYesD (dCall 2 [] (m__law_same n) (aCons (dVar 2) (aCons (dVar 3) aNil))) (zipD ds ds) [] [a, b, .no, .no] = .ok ((zipD ds ds).map fun _ => .bl true) [a, b, .no, .no] := fun ds hl hs a b => by
      refine (cLoop_map (f := fun _ => .bl true) rfl (fun d hd => ?_) (by
        unfold zipD
        rw [List.length_zipWith]
        simp
        omega)).trans (by rw [List.nil_append])
      obtain ⟨i, hi⟩ := List.mem_iff_getElem?.mp hd
      obtain ⟨x, y, h1, h2, rfl⟩ := DL.zip_get hi
      rw [h1] at h2
      cases h2
      have e := same_self n x (sgs_mem hs x (List.mem_of_getElem? h1))
      refine Wp.eq ?_
      simp [e, rest]
    have es : m__law_same (n + 1) = mFn n__law_same.length (b__law_same (m__law_same n)) := rfl
    rw [es]
    refine Wp.eq (wp_fn ?_)
    cases d with
    | non => simp [b__law_same, isND, isNone]
    | bl b => simp [b__law_same, isND, isNone, isT]
    | int i => simp [b__law_same, isND, isNone, isT]
    | str x =>
      have ok : SOk x := by
        unfold sg at h
        exact h
      simp [b__law_same, isND, isNone, isT, eqD_strA ok ok]
    | tup ds =>
      unfold sg at h
      obtain ⟨h1, h2⟩ := Bool.and_eq_true_iff.mp h
      have s := seq ds (of_decide_eq_true h1) h2
      simp [b__law_same, isND, isNone, isT, s, gAll, asBls_trues]
    | lst ds =>
      unfold sg at h
      obtain ⟨h1, h2⟩ := Bool.and_eq_true_iff.mp h
      have s := seq ds (of_decide_eq_true h1) h2
      simp [b__law_same, isND, isNone, isT, s, gAll, asBls_trues]
    | _ =>
      unfold sg at h
      cases h
end Kx

/- part -/
set_option Elab.async false
set_option linter.all false
set_option maxRecDepth 100000
set_option maxHeartbeats 1000000
namespace Kx
open PySem DL PyProof.Rows
/-! ### digits are drawn -/
theorem mem_zt {ns : List Int} {p : Int × Int} (h : p ∈ ns.zip ns.tail) : ∃ i, i + 1 < ns.length ∧ p = (ns.getD i 0, ns.getD (i + 1) 0) := by
  obtain ⟨i, hi, rfl⟩ := List.mem_iff_getElem.mp h
  have hl : i < ns.length - 1 := by
    rw [List.length_zip, List.length_tail] at hi
    omega
  have e1 : ns[i]? = some (ns[i]'(by omega)) := List.getElem?_eq_getElem _
  have e2 : ns[i + 1]? = some (ns[i + 1]'(by omega)) := List.getElem?_eq_getElem _
  refine ⟨i, by omega, ?_⟩
  simp [List.getD_eq_getElem?_getD, e1, e2]
theorem gaps_of {b : Int} {ns : List Int} (h : ∀ p ∈ ns.zip ns.tail, (p.2 - p.1) * (b - 1) ≤ wdI ns) : (gapB b ns).all id = true := by
  unfold gapB
  rw [List.all_map, List.all_eq_true]
  intro p hp
  exact decide_eq_true (h p hp)
theorem of_gaps {b : Int} {ns : List Int} (h : (gapB b ns).all id = true) : ∀ p ∈ ns.zip ns.tail, (p.2 - p.1) * (b - 1) ≤ wdI ns := by
  unfold gapB at h
  rw [List.all_map, List.all_eq_true] at h
  exact fun p hp => of_decide_eq_true (h p hp)
def rgI (f : Int) (n : Nat) : List Int := (List.range n).map fun (k : Nat) => f + k
theorem rgI_len (f : Int) (n : Nat) : (rgI f n).length = n := by simp [rgI]
theorem rgI_at {f : Int} {n i : Nat} (h : i < n) : (rgI f n).getD i 0 = f + i := by
  simp [rgI, List.getD_eq_getElem?_getD, h]
theorem rgI_asc (f : Int) (n : Nat) : (rgI f n).Pairwise (· < ·) := by
  unfold rgI
  rw [List.pairwise_map]
  exact List.pairwise_lt_range.imp fun h => by omega
theorem rgI_mem {f : Int} {n : Nat} {d : Int} (h : d ∈ rgI f n) : f ≤ d ∧ d < f + n := by
  obtain ⟨k, hk, rfl⟩ := List.mem_map.mp h
  have := List.mem_range.mp hk
  omega
theorem rgI_gaps {b f : Int} {n : Nat} (h2 : 2 ≤ n) (hb : b ≤ n) : (gapB b (rgI f n)).all id = true := by
  refine gaps_of fun p hp => ?_
  obtain ⟨i, hi, rfl⟩ := mem_zt hp
  rw [rgI_len] at hi
  have e : wdI (rgI f n) = n - 1 := by
    unfold wdI lstI fstI
    rw [rgI_len, rgI_at (by omega), rgI_at (by omega)]
    omega
  rw [e, rgI_at (by omega), rgI_at (by omega)]
  have : f + ((i + 1 : Nat) : Int) - (f + (i : Int)) = 1 := by omega
  simp only [this]
  omega
/-- a line of digits as it is drawn -/
structure Ln (b : Int) (ns : List Int) : Prop where
  asc : ns.Pairwise (· < ·)
  len2 : 2 ≤ ns.length
  len : ns.length ≤ 14
  ab : ∀ d ∈ ns, -7 ≤ d ∧ d ≤ 16
  gaps : (gapB b ns).all id = true
theorem Ln.fewer {b : Int} {ns : List Int} (h : Ln b ns) (i : Nat) (h3 : 2 ≤ (ns.eraseIdx i).length) (g : (gapB b (ns.eraseIdx i)).all id = true) : Ln b (ns.eraseIdx i) := by
  have sub := List.eraseIdx_sublist ns i
  exact ⟨h.asc.sublist sub, h3, Nat.le_trans sub.length_le h.len, fun d hd => h.ab d (sub.subset hd), g⟩
theorem getD_map {ns : List Int} {u : Int} {i : Nat} (h : i < ns.length) : (ns.map (· * u)).getD i 0 = ns.getD i 0 * u := by
  simp [List.getD_eq_getElem?_getD, h]
theorem Ln.dg {b u : Int} {ns : List Int} (h : Ln b ns) (hb : 2 ≤ b) (hb2 : b ≤ 10) (hu : u = 1 ∨ u = 2) : Dg b (ns.map (· * u)) := by
  have u0 : 0 < u := by rcases hu with rfl | rfl <;> omega
  have l2 := h.len2
  have len := h.len
  refine ⟨hb, hb2, ?_, by simpa using h.len2, by simp; omega, fun d hd => ?_, gaps_of fun p hp => ?_⟩
  · rw [List.pairwise_map]
    exact h.asc.imp fun z => Int.mul_lt_mul_of_pos_right z u0
  · obtain ⟨x, hx, rfl⟩ := List.mem_map.mp hd
    have := h.ab x hx
    rcases hu with rfl | rfl <;> omega
  · obtain ⟨i, hi, rfl⟩ := mem_zt hp
    rw [List.length_map] at hi
    have hm : (ns.getD i 0, ns.getD (i + 1) 0) ∈ ns.zip ns.tail := by
      refine List.mem_iff_getElem?.mpr ⟨i, ?_⟩
      have e1 : ns[i]? = some (ns[i]'(by omega)) := List.getElem?_eq_getElem _
      have e2 : ns[i + 1]? = some (ns[i + 1]'(by omega)) := List.getElem?_eq_getElem _
      rw [List.getElem?_zip_eq_some]
      rw [List.getElem?_tail]
      simp [List.getD_eq_getElem?_getD, e1, e2]
    have g := of_gaps h.gaps _ hm
    have e : wdI (ns.map (· * u)) = wdI ns * u := by
      unfold wdI lstI fstI
      rw [List.length_map, getD_map (by omega), getD_map (by omega), Int.sub_mul]
    rw [e, getD_map (by omega), getD_map hi, ← Int.sub_mul, Int.mul_right_comm]
    exact Int.mul_le_mul_of_nonneg_right g (by omega)
theorem popAt_in {ds : List D} {i : Int} (h0 : 0 ≤ i) (h1 : i < ds.length) (hl : ds.length ≤ 1000000) : ∃ d, gPopAt ds [.int i] = some (d, ds.eraseIdx i.toNat) := by
  have h2 : i.toNat < ds.length := by omega
  refine ⟨ds[i.toNat], ?_⟩
  show (match L2.ixN ds.length i with
    | some j => if ds.length ≤ 1000000 then (ds[j]?).map fun d => (d, ds.eraseIdx j) else none
    | none => none) = _
  rw [ixN_in h0 h1]
  show (if ds.length ≤ 1000000 then (ds[i.toNat]?).map fun d => (d, ds.eraseIdx i.toNat) else none) = _
  rw [if_pos hl, List.getElem?_eq_getElem h2]
  rfl
theorem rng2_A {i k : Int} (h1 : -1000000 ≤ i) (h2 : i ≤ 1000000) (h3 : -1000000 ≤ k) (h4 : k ≤ 1000000) : rng2D (.int i) (.int k) = some (.ow (.ls ((rgI i (k - i).toNat).map D.int))) := by
  show (if (decide (-1000000 ≤ i) && decide (i ≤ 1000000) && decide (-1000000 ≤ k) && decide (k ≤ 1000000)) = true then _ else _) = _
  rw [if_pos (by simp [h1, h2, h3, h4])]
  unfold rgI
  rw [List.map_map]
  rfl
theorem dvs2 : Dvs 2 := ⟨by decide, by decide +kernel⟩
/-- a slot that has a list, owned or shared -/
def Has (sv : SV) (ds : List D) : Prop := sv = .ow false (.ls ds) ∨ sv = .im (.lst ds)
theorem Has.nio {sv : SV} {ds : List D} (h : Has sv ds) : Nio sv := by
  rcases h with rfl | rfl <;> simp
theorem map_erase (ns : List Int) (i : Nat) : (ns.map D.int).eraseIdx i = (ns.eraseIdx i).map D.int := by
  rw [List.eraseIdx_eq_take_drop_succ, List.eraseIdx_eq_take_drop_succ, List.map_append, List.map_take, List.map_drop]
theorem digits_wp {r : List D} {b most : Int} {Q : RV → SE → Prop} {E : Exc → SE → Prop} (hr : RngOk r) (hb : 2 ≤ b) (hb2 : b ≤ 10) (hm : b ≤ most) (hm2 : most ≤ 14)
    (k : ∀ ns r', Dg b ns → RngOk r' → Q (.ow (.ls (ns.map D.int))) [.ow true (.ls r'), .im (.int b), .im (.int most)]) : WP (m__law_digits [.ow true (.ls r), .im (.int b), .im (.int most)]) Q E := by
  refine wp_fn ?_
  simp [b__law_digits]
  refine draw_wp hr (by omega) (by omega) fun k1 r1 a1 a2 hr1 => ?_
  simp [dvs2]
  refine draw_wp hr1 (by omega) (by omega) fun k2 r2 c1 c2 hr2 => ?_
  simp
  refine pick_wp hr2 (by simp) (by simp) fun d r3 hd hr3 => ?_
  obtain ⟨f, rfl, f1, f2⟩ : ∃ f : Int, d = .int f ∧ -7 ≤ f ∧ f ≤ 2 := by
    simp only [List.mem_cons, List.not_mem_nil, or_false] at hd
    rcases hd with rfl | rfl | rfl
    · refine ⟨_, rfl, ?_, ?_⟩
      · have : (b + k1).fdiv 2 ≤ 7 := by
          rw [Int.fdiv_eq_ediv_of_nonneg _ (by decide)]
          omega
        omega
      · have : 0 ≤ (b + k1).fdiv 2 := Int.fdiv_nonneg (by omega) (by decide)
        omega
    · exact ⟨0, rfl, by omega, by omega⟩
    · exact ⟨_, rfl, by omega, by omega⟩
  have e0 := rng2_A (i := f) (k := f + (b + k1)) (by omega) (by omega) (by omega) (by omega)
  rw [show (f + (b + k1) - f).toNat = (b + k1).toNat from by congr 1; omega] at e0
  simp [e0]
  refine draw_wp hr3 (by omega) (by omega) fun k3 r4 d1 d2 hr4 => ?_
  have g3 : rngOk k3 = true := rngOk_of (by omega) (by omega)
  simp [g3]
  refine wp_floop (fun _ ρ => ∃ ns r' x5 x6 x7, Ln b ns ∧ RngOk r' ∧ Has x5 (ns.map D.int) ∧ Nio x6 ∧ Nio x7 ∧ ρ = [.ow true (.ls r'), .im (.int b), .im (.int most), .im (.int (b + k1)), .im (.int f), x5, x6, x7, .no, .no])
    ⟨_, _, _, _, _, ⟨rgI_asc _ _, by rw [rgI_len]; omega, by rw [rgI_len]; omega, fun d hd => by have := rgI_mem hd; omega, rgI_gaps (by omega) (by omega)⟩, hr4, .inl rfl, nio_no, nio_no, rfl⟩ ?_ ?_
  · rintro i d ρ hd ⟨ns, r5, x5, x6, x7, ln, hr5, hx5, hx6, hx7, rfl⟩
    rw [List.getElem?_map] at hd
    obtain ⟨j, _, hj⟩ := Option.map_eq_some_iff.mp hd
    subst hj
    have len := ln.len
    have len2 := ln.len2
    have i5 := hx5.nio
    rcases hx5 with rfl | rfl
    · simp [hx6, hx7]
      refine draw_wp hr5 (by omega) (by omega) fun k4 r6 e1 e2 hr6 => ?_
      obtain ⟨d4, hp⟩ := popAt_in (ds := ns.map D.int) (i := k4) e1 (by simpa using e2) (by simp; omega)
      rw [map_erase] at hp
      simp [hp]
      have sub := List.eraseIdx_sublist ns k4.toNat
      refine wp_iff (fun hlt => ?_) fun _ => ?_
      · have e := lare_ok (b := b) (ns := ns.eraseIdx k4.toNat) (ln.asc.sublist sub) (by omega) (Nat.le_trans sub.length_le (by omega)) (fun d hd => by have := ln.ab d (sub.subset hd); omega) hb hb2
        cases hg : (gapB b (ns.eraseIdx k4.toNat)).all id with
        | true =>
          rw [hg] at e
          simp [e]
          exact ⟨_, ln.fewer _ (by omega) hg, _, hr6, _, .inr rfl, _, nio_im, _, nio_im, rfl, rfl, rfl, rfl⟩
        | false =>
          rw [hg] at e
          simp [e]
          exact ⟨_, ln, _, hr6, _, .inl rfl, _, nio_im, _, nio_im, rfl, rfl, rfl, rfl⟩
      · simp
        exact ⟨_, ln, _, hr6, _, .inl rfl, _, nio_im, _, nio_ow, rfl, rfl, rfl, rfl⟩
    · simp [hx6, hx7]
      refine draw_wp hr5 (by omega) (by omega) fun k4 r6 e1 e2 hr6 => ?_
      obtain ⟨d4, hp⟩ := popAt_in (ds := ns.map D.int) (i := k4) e1 (by simpa using e2) (by simp; omega)
      rw [map_erase] at hp
      simp [hp]
      have sub := List.eraseIdx_sublist ns k4.toNat
      refine wp_iff (fun hlt => ?_) fun _ => ?_
      · have e := lare_ok (b := b) (ns := ns.eraseIdx k4.toNat) (ln.asc.sublist sub) (by omega) (Nat.le_trans sub.length_le (by omega)) (fun d hd => by have := ln.ab d (sub.subset hd); omega) hb hb2
        cases hg : (gapB b (ns.eraseIdx k4.toNat)).all id with
        | true =>
          rw [hg] at e
          simp [e]
          exact ⟨_, ln.fewer _ (by omega) hg, _, hr6, _, .inr rfl, _, nio_im, _, nio_im, rfl, rfl, rfl, rfl⟩
        | false =>
          rw [hg] at e
          simp [e]
          exact ⟨_, ln, _, hr6, _, .inr rfl, _, nio_im, _, nio_im, rfl, rfl, rfl, rfl⟩
      · simp
        exact ⟨_, ln, _, hr6, _, .inr rfl, _, nio_im, _, nio_ow, rfl, rfl, rfl, rfl⟩
  · rintro ρ ⟨ns, r5, x5, x6, x7, ln, hr5, hx5, hx6, hx7, rfl⟩
    have len := ln.len
    simp
    refine pick_wp hr5 (by simp) (by simp) fun d r6 hd hr6 => ?_
    obtain ⟨u, rfl, hu⟩ : ∃ u : Int, d = .int u ∧ (u = 1 ∨ u = 2) := by
      simp only [List.mem_cons, List.not_mem_nil, or_false] at hd
      rcases hd with rfl | rfl | rfl | rfl <;> exact ⟨_, rfl, by simp⟩
    have su : Sml u := sml (by omega) (by omega)
    rcases hx5 with rfl | rfl
    · simp
      refine wp_cmap (fun d => match d with | .int i => .int (i * u) | _ => .non) rfl (by simp; omega) (fun d hd => ?_) fun ys hy => ?_
      · obtain ⟨i, hi, rfl⟩ := List.mem_map.mp hd
        have := ln.ab i hi
        have si : Sml i := sml (by omega) (by omega)
        simp [si, su, rest]
      · have e : ys = (ns.map (· * u)).map D.int := by
          rw [hy, List.map_map, List.map_map]
          rfl
        simp
        rw [e]
        exact k _ _ (ln.dg hb hb2 hu) hr6
    · simp
      refine wp_cmap (fun d => match d with | .int i => .int (i * u) | _ => .non) rfl (by simp; omega) (fun d hd => ?_) fun ys hy => ?_
      · obtain ⟨i, hi, rfl⟩ := List.mem_map.mp hd
        have := ln.ab i hi
        have si : Sml i := sml (by omega) (by omega)
        simp [si, su, rest]
      · have e : ys = (ns.map (· * u)).map D.int := by
          rw [hy, List.map_map, List.map_map]
          rfl
        simp
        rw [e]
        exact k _ _ (ln.dg hb hb2 hu) hr6
end Kx

/- part -/
set_option Elab.async false
set_option linter.all false
set_option maxRecDepth 100000
set_option maxHeartbeats 1000000
namespace Kx
open PySem DL PyProof.Rows
/-! ### texts that may be compared -/
theorem sok_of {x : Str} (h : x.cps.all (· < 0x110000) = true) : SOk x := by
  have e1 : plain 64 (.str x) = true := rfl
  have e2 : SeqAt.shaped (toPy (.str x)) = true := by
    have a1 : (PyData.str x).canLay0 = true := h
    have a2 : (PyData.str x).depth ≤ 64 := by
      show _ ≤ _
      simp [PyData.depth]
    show (PyData.canLay0 (PyData.str x) && decide ((PyData.str x).depth ≤ 64)) = true
    rw [a1, decide_eq_true a2]
    rfl
  show (plain 64 (.str x) && SeqAt.shaped (toPy (.str x))) = true
  rw [e1, e2]
  rfl
theorem sok_lit (s : String) : (Str.ofString s).cps.all (· < 0x110000) = true := by
  rw [Str.ofString_eq_toList]
  rw [Array.all_eq_true']
  intro c hc
  have hc : c ∈ (s.toList.map Char.toNat).toArray := hc
  obtain ⟨ch, _, rfl⟩ := List.mem_map.mp (by simpa using hc)
  have := ch.valid
  have h2 : ch.toNat < 0x110000 := by
    rcases this with z | ⟨_, z⟩
    · exact Nat.lt_trans z (by decide)
    · exact z
  exact decide_eq_true h2
theorem sok_app {x y : Str} (h1 : x.cps.all (· < 0x110000) = true) (h2 : y.cps.all (· < 0x110000) = true) : (x ++ y).cps.all (· < 0x110000) = true := by
  rw [Str.cps_append, Array.all_append, h1, h2]
  rfl
/-! ### the same -/
theorem same_int (n : Nat) (i : Int) : m__law_same (n + 1) [.im (.int i), .im (.int i)] = .ok (.im (.bl true)) [.im (.int i), .im (.int i)] := by
  simp [m__law_same, mFn, b__law_same, sSeq, sIf, dOrT, dAnd, dOp2, dOp1, dVar, dC, isND, isNone, sRet, sPass, look, isT, mRet, outs, out1]
theorem same_non (n : Nat) : m__law_same (n + 1) [.im .non, .im .non] = .ok (.im (.bl true)) [.im .non, .im .non] := by
  simp [m__law_same, mFn, b__law_same, sSeq, sIf, dOrT, dAnd, dOp2, dOp1, dVar, dC, isND, isNone, sRet, sPass, look, isT, mRet, outs, out1]
theorem same_str (n : Nat) {x : Str} (h : SOk x) : m__law_same (n + 1) [.im (.str x), .im (.str x)] = .ok (.im (.bl true)) [.im (.str x), .im (.str x)] := by
  simp [m__law_same, mFn, b__law_same, sSeq, sIf, dOrT, dAnd, dOp2, dOp1, dVar, dC, isND, isNone, sRet, sPass, look, isT, mRet, outs, out1, eqD_strA h h]
theorem same_tup2 (n : Nat) {a b : D} (h1 : m__law_same (n + 1) [.im a, .im a] = .ok (.im (.bl true)) [.im a, .im a]) (h2 : m__law_same (n + 1) [.im b, .im b] = .ok (.im (.bl true)) [.im b, .im b]) :
    m__law_same (n + 2) [.im (.tup [a, b]), .im (.tup [a, b])] = .ok (.im (.bl true)) [.im (.tup [a, b]), .im (.tup [a, b])] := by
  have e : cLoop [2, 3] (tgTup 2 (tgCons (tgName 2) (tgCons (tgName 3) tgNil))) tYesD (dCall 2 [] (m__law_same (n + 1)) (aCons (dVar 2) (aCons (dVar 3) aNil))) [.tup [a, a], .tup [b, b]] [] [.im (.tup [a, b]), .im (.tup [a, b]), .no, .no] = .ok [.bl true, .bl true] [.im (.tup [a, b]), .im (.tup [a, b]), .no, .no] := by
    refine (cLoop_map (f := fun _ => .bl true) rfl (fun d hd => ?_) (by simp)).trans rfl
    rcases List.mem_cons.mp hd with rfl | hd
    · simp [cTurn, wipeR, tgTup, tgCons, tgName, tgNil, stow, noEx, tYesD, dFz, dCall, aCons, aNil, dVar, callR, iosOf, argSV, h1, rest]
    · rw [List.mem_singleton.mp hd]
      simp [cTurn, wipeR, tgTup, tgCons, tgName, tgNil, stow, noEx, tYesD, dFz, dCall, aCons, aNil, dVar, callR, iosOf, argSV, h2, rest]
  have es : m__law_same (n + 2) = mFn n__law_same.length (b__law_same (m__law_same (n + 1))) := rfl
  rw [es]
  simp [mFn, b__law_same, sSeq, sIf, dOrT, dAnd, dOp2, dOp1, dVar, dC, isND, isNone, sRet, sPass, look, isT, dCb, vCons, vNil, dLc, iZip2, aCons, aNil, dFz, zipR, zipD, e, gAll, asBls, mRet, outs, out1]
/-! ### the same -/
theorem same_bl (n : Nat) (a b : Bool) : m__law_same (n + 1) [.im (.bl a), .im (.bl b)] = .ok (.im (.bl (a == b))) [.im (.bl a), .im (.bl b)] := by
  simp [m__law_same, mFn, b__law_same, sSeq, sIf, dOrT, dAnd, dOp2, dOp1, dVar, dC, isND, isNone, sRet, sPass, look, isT, mRet, outs, out1]
theorem same_lst (n : Nat) {xs ys : List D} (hl : xs.length = ys.length) (hz : xs.length ≤ 1000000) (h : ∀ x y, D.tup [x, y] ∈ zipD xs ys → m__law_same n [.im x, .im y] = .ok (.im (.bl true)) [.im x, .im y]) :
    m__law_same (n + 1) [.im (.lst xs), .im (.lst ys)] = .ok (.im (.bl true)) [.im (.lst xs), .im (.lst ys)] := by
  have e1 : cLoop [2, 3] (tgTup 2 (tgCons (tgName 2) (tgCons (tgName 3) tgNil))) tYesD (dCall 2 [] (m__law_same n) (aCons (dVar 2) (aCons (dVar 3) aNil))) (zipD xs ys) [] [.im (.lst xs), .im (.lst ys), .no, .no] = .ok ((zipD xs ys).map fun _ => .bl true) [.im (.lst xs), .im (.lst ys), .no, .no] := by
    refine (cLoop_map (f := fun _ => .bl true) rfl (fun d hd => ?_) (by
      unfold zipD
      rw [List.length_zipWith]
      simp
      omega)).trans (by rw [List.nil_append])
    obtain ⟨i, hi⟩ := List.mem_iff_getElem?.mp hd
    obtain ⟨x, y, _, _, rfl⟩ := DL.zip_get hi
    have e := h x y hd
    simp [cTurn, wipeR, tgTup, tgCons, tgName, tgNil, stow, noEx, tYesD, dFz, dCall, aCons, aNil, dVar, callR, iosOf, argSV, e, rest]
  simp [m__law_same, mFn, b__law_same, sSeq, sIf, dOrT, dAnd, dOp2, dOp1, dVar, dC, isND, isNone, sRet, sPass, look, isT, dCb, vCons, vNil, hl, dLc, iZip2, aCons, aNil, dFz, zipR, e1, gAll, asBls_trues, mRet, outs, out1]
/-! ### fractions by their ratio -/
theorem fr_pos {a b : Int} (hb : 0 < b) : frD a b = .tup [.int (a / gI a b), .int (b / gI a b)] := by
  have g0 : 0 ≤ gI a b := by
    show (0 : Int) ≤ (Nat.gcd a.natAbs b.natAbs : Nat)
    omega
  unfold frD nI dI
  rw [if_neg (by omega), if_neg (by omega), Int.fdiv_eq_ediv_of_nonneg _ g0, Int.fdiv_eq_ediv_of_nonneg _ g0]
theorem gI_pos {a b : Int} (hb : 0 < b) : 0 < gI a b := by
  have : 0 < Nat.gcd a.natAbs b.natAbs := Nat.gcd_pos_of_pos_right _ (by omega)
  show (0 : Int) < (Nat.gcd a.natAbs b.natAbs : Nat)
  omega
theorem gI_mul {a b k : Int} (hk : 0 < k) : gI (a * k) (b * k) = gI a b * k := by
  unfold gI
  rw [Int.natAbs_mul, Int.natAbs_mul, Nat.gcd_mul_right, Int.natCast_mul]
  congr 1
  omega
theorem fr_scale {a b k : Int} (hb : 0 < b) (hk : 0 < k) : frD (a * k) (b * k) = frD a b := by
  rw [fr_pos hb, fr_pos (Int.mul_pos hb hk), gI_mul hk, Int.mul_ediv_mul_of_pos_left _ _ hk, Int.mul_ediv_mul_of_pos_left _ _ hk]
theorem fr_eq {a b c d : Int} (hb : 0 < b) (hd : 0 < d) (h : a * d = c * b) : frD a b = frD c d := by
  rw [← fr_scale hb hd, ← fr_scale hd hb, h, Int.mul_comm b d]
theorem fr_parts {a b : Int} (hb : 0 < b) : ∃ n d : Int, frD a b = .tup [.int n, .int d] ∧ 0 < d ∧ d ≤ b ∧ n * b = a * d ∧ n.natAbs ≤ a.natAbs := by
  have g0 := gI_pos (a := a) hb
  have d1 : gI a b ∣ a := by
    unfold gI
    exact Int.ofNat_dvd_left.mpr (Nat.gcd_dvd_left _ _)
  have d2 : gI a b ∣ b := by
    unfold gI
    exact Int.ofNat_dvd_left.mpr (Nat.gcd_dvd_right _ _)
  obtain ⟨p, hp⟩ := d1
  obtain ⟨q, hq⟩ := d2
  have e1 : a / gI a b = p := by
    rw [Int.ediv_eq_of_eq_mul_right (by omega) hp]
  have e2 : b / gI a b = q := by
    rw [Int.ediv_eq_of_eq_mul_right (by omega) hq]
  have q0 : 0 < q := by
    by_cases z : 0 < q
    · exact z
    · have := Int.mul_le_mul_of_nonneg_left (show q ≤ 0 by omega) (show 0 ≤ gI a b by omega)
      omega
  refine ⟨p, q, by rw [fr_pos hb, e1, e2], q0, ?_, ?_, ?_⟩
  · have : 1 * q ≤ gI a b * q := Int.mul_le_mul_of_nonneg_right (by omega) (by omega)
    omega
  · have h1 : p * b = p * (gI a b * q) := by rw [← hq]
    have h2 : a * q = gI a b * p * q := by rw [← hp]
    rw [h1, h2, ← Int.mul_assoc, Int.mul_comm p]
  · have : a.natAbs = (gI a b).natAbs * p.natAbs := by rw [← Int.natAbs_mul, ← hp]
    have h3 : 1 ≤ (gI a b).natAbs := by omega
    have := Nat.mul_le_mul_right p.natAbs h3
    omega
theorem same_fr (n : Nat) {a b : Int} (hb : 0 < b) : m__law_same (n + 2) [.im (frD a b), .im (frD a b)] = .ok (.im (.bl true)) [.im (frD a b), .im (frD a b)] := by
  rw [fr_pos hb]
  exact same_tup2 n (same_int n _) (same_int n _)
theorem ok_ii {a b : Int} : okc (.tup [.int a, .int b]) = true := by rfl
theorem ne_fr {a b : Int} (hb : 0 < b) : neD (frD a b) (frD a b) = some (.im (.bl false)) := by
  rw [fr_pos hb]
  unfold neD
  rw [if_pos (by rw [ok_ii]; rfl)]
  have : eqv (.tup [.int (a / gI a b), .int (b / gI a b)]) (.tup [.int (a / gI a b), .int (b / gI a b)]) = true := by
    have e : ∀ x y : Int, eqv (.tup [.int x, .int y]) (.tup [.int x, .int y]) = ((x == x) && ((y == y) && true)) := fun _ _ => rfl
    rw [e]
    simp
  rw [this]
  rfl
theorem eq_ii {a b c d : Int} : eqD (.tup [.int a, .int b]) (.tup [.int c, .int d]) = some (.im (.bl (decide (a = c) && decide (b = d)))) := by
  unfold eqD
  rw [if_pos (by rw [ok_ii, ok_ii]; rfl)]
  have e : eqv (.tup [.int a, .int b]) (.tup [.int c, .int d]) = ((a == c) && ((b == d) && true)) := rfl
  rw [e, Bool.and_true]
  rfl
@[simp] theorem unl_fr {a b : Int} : unl (frD a b) = frD a b := rfl
def dsD (b : Int) (ns : List Int) : D := .obj "DigitSet" (dsF b ns)
theorem at_base {b : Int} {ns : List Int} : attrD "base" (dsD b ns) = some (.im (.int b)) := attr_ob (by
  unfold dsF
  rw [List.lookup_cons, beq_self_eq_true])
theorem at_digits {b : Int} {ns : List Int} : attrD "digits" (dsD b ns) = some (.im (.tup (ns.map D.int))) := attr_ob (by
  unfold dsF
  rw [List.lookup_cons, show (("digits" : Str) == "base") = false from by decide +kernel, List.lookup_cons, beq_self_eq_true])
@[simp] theorem unl_ds {b : Int} {ns : List Int} : unl (dsD b ns) = dsD b ns := rfl
@[simp ↓, simp] theorem w_meth_ds {b : Int} {ns : List Int} {mm : SE → R RV} {n : Nat} {ds : List D} {ms : DM (List AV)} {ρ : SE} {c : Cont RV} : Wp (methK [("DigitSet", mm)] n ds ms (dsD b ns) ρ) = Wp (dCall n ds mm (aFst (dsD b ns) ms) ρ) := w_meth1
@[simp] theorem dsD_fold {b : Int} {ns : List Int} : D.obj "DigitSet" (dsF b ns) = dsD b ns := rfl
theorem set_ok {b : Int} {ns : List Int} (h : Dg b ns) : m__law_set [.im (.int b), .im (.lst (ns.map D.int))] = .ok (.ow (.ob "DigitSet" (dsF b ns))) [.im (.int b), .im (.lst (ns.map D.int))] := by
  refine Wp.eq (wp_fn ?_)
  have hs : gSorted [unl (.lst (ns.map D.int))] = some (.ow (.ls (ns.map D.int))) := by
    rw [unl_lstA, gSorted_intsA, sortI_id (h.asc.imp fun h => by omega)]
  simp [b__law_set, init_ok h hs]
/-- no list of its own -/
def Imm (x : SV) : Prop := x = .no ∨ ∃ d, x = .im d
theorem Imm.nio {x : SV} (h : Imm x) : Nio x := by
  rcases h with rfl | ⟨d, rfl⟩
  · exact nio_no
  · exact nio_im
theorem imm_im {d : D} : Imm (.im d) := .inr ⟨d, rfl⟩
end Kx

/- part -/
set_option Elab.async false
set_option linter.all false
set_option maxRecDepth 100000
set_option maxHeartbeats 1000000
namespace Kx
open PySem DL PyProof.Rows
theorem small_pow {n : Nat} (h : n < 16) : n < 2 ^ 4000 := Nat.lt_of_lt_of_le h (show 2 ^ 4 ≤ 2 ^ 4000 from Nat.pow_le_pow_right (by decide) (by decide))
/-! ### the parts of a digit set -/
theorem frac_dg {b x : Int} (h2 : 2 ≤ b) (h10 : b ≤ 10) : m_fraction [.im (.int x), .im (.int (b - 1))] = .ok (.im (frD x (b - 1))) [.im (.int x), .im (.int (b - 1))] := frac_ok (by omega) (small_pow (by omega))
theorem low_dg {b x : Int} (h2 : 2 ≤ b) (h10 : b ≤ 10) : m__law_lowest [.im (.int x), .im (.int (b - 1))] = .ok (.im (frD x (b - 1))) [.im (.int x), .im (.int (b - 1))] := low_ok (by omega) (small_pow (by omega))
theorem dslow_ok {b : Int} {ns : List Int} (h : Dg b ns) : m_DigitSet__low [.im (dsD b ns)] = .ok (.im (frD (fstI ns) (b - 1))) [.im (dsD b ns)] := by
  obtain ⟨h1, h2, h3, h4, h5, h6, h7⟩ := h
  refine Wp.eq (wp_fn ?_)
  have g0 := at_fst (ns := ns) (by omega)
  simp [b_DigitSet__low, at_base, at_digits, g0, frac_dg h1 h2]
theorem dshigh_ok {b : Int} {ns : List Int} (h : Dg b ns) : m_DigitSet__high [.im (dsD b ns)] = .ok (.im (frD (lstI ns) (b - 1))) [.im (dsD b ns)] := by
  obtain ⟨h1, h2, h3, h4, h5, h6, h7⟩ := h
  refine Wp.eq (wp_fn ?_)
  have g1 := at_lst (ns := ns) (by omega)
  simp [b_DigitSet__high, at_base, at_digits, g1, frac_dg h1 h2]
theorem min_all {n : Int} : ∀ {ns : List Int}, (∀ a ∈ ns, n < a) → minI n ns = n
  | [], _ => rfl
  | m :: ns, h => by
    have := h m List.mem_cons_self
    show minI (if m < n then m else n) ns = n
    rw [if_neg (by omega)]
    exact min_all fun a ha => h a (List.mem_cons_of_mem _ ha)
theorem min_asc {n : Int} {ns : List Int} (h : (n :: ns).Pairwise (· < ·)) : minI n ns = n := min_all (List.pairwise_cons.mp h).1
theorem max_asc : ∀ (n : Int) (ns : List Int), (n :: ns).Pairwise (· < ·) → maxI n ns = lstI (n :: ns)
  | n, [], _ => rfl
  | n, m :: ns, h => by
    have h1 := (List.pairwise_cons.mp h).1 m List.mem_cons_self
    show maxI (if n < m then m else n) ns = _
    rw [if_pos h1, max_asc m ns (List.pairwise_cons.mp h).2]
    unfold lstI
    simp [List.getD_eq_getElem?_getD]
theorem gMin_dg {b : Int} {ns : List Int} (h : Dg b ns) : gMin [.lst (ns.map D.int)] = some (.im (.int (fstI ns))) := by
  cases ns with
  | nil => have := h.len2; simp at this
  | cons n ns => rw [gMin_A, min_asc h.asc]; rfl
theorem gMax_dg {b : Int} {ns : List Int} (h : Dg b ns) : gMax [.lst (ns.map D.int)] = some (.im (.int (lstI ns))) := by
  cases ns with
  | nil => have := h.len2; simp at this
  | cons n ns => rw [gMax_A, max_asc _ _ h.asc]
theorem ends_ok {b : Int} {ns : List Int} (h : Dg b ns) : m__law_ends [.im (.int b), .im (.lst (ns.map D.int))] = .ok (.im (.tup [frD (fstI ns) (b - 1), frD (lstI ns) (b - 1)])) [.im (.int b), .im (.lst (ns.map D.int))] := by
  refine Wp.eq (wp_fn ?_)
  simp [b__law_ends, gMin_dg h, gMax_dg h, low_dg h.b2 h.b10]
/-! ### fractions read as rational numbers -/
def qD (q : Rat) : D := .tup [.int q.num, .int (q.den : Int)]
theorem frD_rat {a b : Int} (hb : 0 < b) : frD a b = qD ((a : Rat) / (b : Rat)) := by
  rw [fr_pos hb, ← Rat.divInt_eq_div]
  unfold qD
  rw [Rat.num_divInt, Rat.den_divInt, if_neg (by omega), Int.sign_eq_one_of_pos hb, Int.one_mul]
  have e : gI a b = ((b.gcd a : Nat) : Int) := by
    unfold gI
    rw [Nat.gcd_comm]
    rfl
  rw [e, Int.natCast_ediv, Int.natAbs_of_nonneg (by omega)]
/-- both parts have at most k bits -/
def Qz (k : Nat) (q : Rat) : Prop := q.num.natAbs < 2 ^ k ∧ q.den < 2 ^ k
theorem Qz.mono {k j : Nat} {q : Rat} (h : Qz k q) (hk : k ≤ j) : Qz j q := ⟨Nat.lt_of_lt_of_le h.1 (Nat.pow_le_pow_right (by decide) hk), Nat.lt_of_lt_of_le h.2 (Nat.pow_le_pow_right (by decide) hk)⟩
theorem Qz.sn {k : Nat} {q : Rat} (h : Qz k q) (hk : k ≤ 100000) : Sml q.num := Sml.of (k := k + 1) (Nat.lt_of_lt_of_le h.1 (Nat.pow_le_pow_right (by decide) (by omega))) (by omega) (by omega)
theorem Qz.sd {k : Nat} {q : Rat} (h : Qz k q) (hk : k ≤ 100000) : Sml (q.den : Int) := Sml.of (k := k + 1) (Nat.lt_of_lt_of_le (by simpa using h.2) (Nat.pow_le_pow_right (by decide) (by omega))) (by omega) (by omega)
theorem den_pos (q : Rat) : 0 < (q.den : Int) := by
  have := q.den_pos
  omega
theorem den2_pos (x y : Rat) : 0 < (x.den : Int) * (y.den : Int) := Int.mul_pos (den_pos x) (den_pos y)
theorem den2_lt {k : Nat} {x y : Rat} (hx : Qz k x) (hy : Qz k y) (hk : k ≤ 2000) : ((x.den : Int) * (y.den : Int)).natAbs < 2 ^ 4000 := by
  have e : ((x.den : Int) * (y.den : Int)).natAbs = x.den * y.den := by
    rw [Int.natAbs_mul]
    simp
  rw [e]
  calc x.den * y.den < 2 ^ k * 2 ^ k := Nat.mul_lt_mul'' hx.2 hy.2
    _ = 2 ^ (k + k) := (Nat.pow_add ..).symm
    _ ≤ 2 ^ 4000 := Nat.pow_le_pow_right (by decide) (by omega)
theorem cast_den2 (x y : Rat) : (((x.den : Int) * (y.den : Int) : Int) : Rat) = ((x.den * y.den : Nat) : Rat) := by
  rw [← Int.natCast_mul]
  rfl
theorem fr_sub (x y : Rat) : frD (x.num * (y.den : Int) - y.num * (x.den : Int)) ((x.den : Int) * (y.den : Int)) = qD (x - y) := by
  rw [frD_rat (den2_pos x y), Rat.sub_def', Rat.mkRat_eq_div, cast_den2]
theorem fr_add (x y : Rat) : frD (x.num * (y.den : Int) + y.num * (x.den : Int)) ((x.den : Int) * (y.den : Int)) = qD (x + y) := by
  rw [frD_rat (den2_pos x y), Rat.add_def', Rat.mkRat_eq_div, cast_den2]
theorem fr_mul (x y : Rat) : frD (x.num * y.num) ((x.den : Int) * (y.den : Int)) = qD (x * y) := by
  rw [frD_rat (den2_pos x y), Rat.mul_def', Rat.mkRat_eq_div, cast_den2]
theorem qD_int (d : Int) : D.tup [.int d, .int 1] = qD (d : Rat) := rfl
theorem Qz.int {k : Nat} {d : Int} (h : d.natAbs < 2 ^ k) (hk : 0 < k) : Qz k (d : Rat) := ⟨h, Nat.one_lt_two_pow (by omega)⟩
@[simp] theorem unl_q {q : Rat} : unl (qD q) = qD q := rfl
/-! ### how large the parts may grow -/
theorem den_mk_le (a : Int) {b : Nat} (hb : b ≠ 0) : (mkRat a b).den ≤ b := by
  rw [Rat.den_mkRat, if_neg hb]
  exact Nat.div_le_self _ _
theorem den_ne (x y : Rat) : x.den * y.den ≠ 0 := Nat.ne_of_gt (Nat.mul_pos x.den_pos y.den_pos)
theorem den_add_le (x y : Rat) : (x + y).den ≤ x.den * y.den := by
  rw [Rat.add_def']
  exact den_mk_le _ (den_ne x y)
theorem den_sub_le (x y : Rat) : (x - y).den ≤ x.den * y.den := by
  rw [Rat.sub_def']
  exact den_mk_le _ (den_ne x y)
theorem den_mul_le (x y : Rat) : (x * y).den ≤ x.den * y.den := by
  rw [Rat.mul_def']
  exact den_mk_le _ (den_ne x y)
theorem den_ne0 (x : Rat) : (x.den : Rat) ≠ 0 := by
  have h : (0 : Rat) < (x.den : Rat) := Rat.natCast_pos.mpr x.den_pos
  exact Rat.ne_of_gt h
theorem num_den (x : Rat) : x * (x.den : Rat) = (x.num : Rat) := by
  have e : x = (x.num : Rat) / (x.den : Rat) := by
    rw [← Rat.mkRat_eq_div, Rat.mkRat_self]
  have n := den_ne0 x
  grind
theorem lin_mk (b d : Int) (x : Rat) : (b : Rat) * x - (d : Rat) = mkRat (b * x.num - d * (x.den : Int)) x.den := by
  rw [Rat.mkRat_eq_div, Rat.intCast_sub, Rat.intCast_mul, Rat.intCast_mul]
  have e := num_den x
  have n := den_ne0 x
  have c : (((x.den : Int) : Int) : Rat) = (x.den : Rat) := rfl
  rw [c]
  grind
theorem den_lin (b d : Int) (x : Rat) : ((b : Rat) * x - (d : Rat)).den ≤ x.den := by
  rw [lin_mk]
  exact den_mk_le _ (Nat.ne_of_gt x.den_pos)
theorem num_le {x : Rat} {m : Nat} (h1 : -(m : Rat) ≤ x) (h2 : x ≤ (m : Rat)) : x.num.natAbs ≤ m * x.den := by
  have a1 := (Rat.le_iff _ _).mp h1
  have a2 := (Rat.le_iff _ _).mp h2
  simp at a1 a2
  have := x.den_pos
  have e : ((m * x.den : Nat) : Int) = (m : Int) * (x.den : Int) := Int.natCast_mul _ _
  have a1' : -((m : Int) * (x.den : Int)) ≤ x.num := by simpa [Int.neg_mul] using a1
  omega
/-! ### every number of the interval has a first digit -/
def loQ (b : Int) (ns : List Int) : Rat := (fstI ns : Rat) / ((b - 1 : Int) : Rat)
def hiQ (b : Int) (ns : List Int) : Rat := (lstI ns : Rat) / ((b - 1 : Int) : Rat)
def okd (b : Int) (ns : List Int) (x : Rat) (d : Int) : Bool := decide (loQ b ns ≤ (b : Rat) * x - (d : Rat)) && decide ((b : Rat) * x - (d : Rat) ≤ hiQ b ns)
theorem lst_cons (a c : Int) (l : List Int) : lstI (a :: c :: l) = lstI (c :: l) := by
  unfold lstI
  simp [List.getD_eq_getElem?_getD]
theorem seek (lo hi y : Rat) : ∀ (l : List Int) (d0 : Int), lo ≤ y - (d0 : Rat) → (∀ p ∈ (d0 :: l).zip l, ((p.2 : Rat) - (p.1 : Rat)) ≤ hi - lo) → y - (lstI (d0 :: l) : Rat) ≤ hi → ∃ d ∈ d0 :: l, lo ≤ y - (d : Rat) ∧ y - (d : Rat) ≤ hi
  | [], d0, h1, _, h3 => ⟨d0, List.mem_cons_self, h1, h3⟩
  | d1 :: l, d0, h1, h2, h3 => by
    by_cases h : y - (d0 : Rat) ≤ hi
    · exact ⟨d0, List.mem_cons_self, h1, h⟩
    · have g := h2 (d0, d1) List.mem_cons_self
      have h' := Rat.not_le.mp h
      obtain ⟨d, hd, r⟩ := seek lo hi y l d1 (by grind) (fun p hp => h2 p (List.mem_cons_of_mem _ hp)) (by rw [← lst_cons d0 d1 l]; exact h3)
      exact ⟨d, List.mem_cons_of_mem _ hd, r⟩
theorem w_pos {b : Int} (h : 2 ≤ b) : (0 : Rat) < ((b - 1 : Int) : Rat) := Rat.intCast_pos.mpr (by omega)
theorem dg_next {b : Int} {ns : List Int} (h : Dg b ns) {x : Rat} (h1 : loQ b ns ≤ x) (h2 : x ≤ hiQ b ns) : ∃ d ∈ ns, okd b ns x d = true := by
  have wp := w_pos h.b2
  have wb : (b : Rat) = ((b - 1 : Int) : Rat) + 1 := by
    have : ((b - 1 : Int) : Rat) = (b : Rat) - 1 := Rat.intCast_sub b 1
    rw [this]
    grind
  have e1 : loQ b ns * ((b - 1 : Int) : Rat) = (fstI ns : Rat) := Rat.div_mul_cancel (Rat.ne_of_gt wp)
  have e2 : hiQ b ns * ((b - 1 : Int) : Rat) = (lstI ns : Rat) := Rat.div_mul_cancel (Rat.ne_of_gt wp)
  have m1 := Rat.mul_le_mul_of_nonneg_right h1 (Rat.le_of_lt wp)
  have m2 := Rat.mul_le_mul_of_nonneg_right h2 (Rat.le_of_lt wp)
  have gp := of_gaps h.gaps
  have len := h.len2
  have gaps : ∀ p ∈ ns.zip ns.tail, ((p.2 : Rat) - (p.1 : Rat)) ≤ hiQ b ns - loQ b ns := fun p hp => by
    have g := gp p hp
    have c : (((p.2 - p.1) * (b - 1) : Int) : Rat) ≤ ((wdI ns : Int) : Rat) := Rat.intCast_le_intCast.mpr g
    unfold wdI at c
    rw [Rat.intCast_mul, Rat.intCast_sub, Rat.intCast_sub] at c
    refine Rat.le_of_mul_le_mul_right (c := ((b - 1 : Int) : Rat)) ?_ wp
    grind
  unfold okd
  generalize loQ b ns = lo at *
  generalize hiQ b ns = hi at *
  generalize ((b - 1 : Int) : Rat) = w at *
  match ns, len, gaps, e1, e2 with
  | d0 :: l, _, gaps, e1, e2 =>
    have f : fstI (d0 :: l) = d0 := rfl
    rw [f] at e1
    obtain ⟨d, hd, r1, r2⟩ := seek lo hi ((b : Rat) * x) l d0 (by rw [wb]; grind) gaps (by rw [wb]; grind)
    exact ⟨d, hd, by rw [decide_eq_true r1, decide_eq_true r2]; rfl⟩
theorem dg_find {b : Int} {ns : List Int} (h : Dg b ns) {x : Rat} (h1 : loQ b ns ≤ x) (h2 : x ≤ hiQ b ns) : ∃ d, ns.find? (okd b ns x) = some d ∧ d ∈ ns ∧ okd b ns x d = true := by
  obtain ⟨d, hd, ok⟩ := dg_next h h1 h2
  cases e : ns.find? (okd b ns x) with
  | none => exact absurd ok (List.find?_eq_none.mp e d hd)
  | some c => exact ⟨c, rfl, List.mem_of_find?_eq_some e, List.find?_some e⟩
/-! ### the functions of fractions -/
theorem subtract_q {k : Nat} {x y : Rat} (hx : Qz k x) (hy : Qz k y) (hk : k ≤ 2000) : m_subtract [.im (qD x), .im (qD y)] = .ok (.im (qD (x - y))) [.im (qD x), .im (qD y)] := by
  refine Wp.eq (wp_fn ?_)
  have e := frac_ok (a := x.num * (y.den : Int) - y.num * (x.den : Int)) (Int.ne_of_gt (den2_pos x y)) (den2_lt hx hy hk)
  rw [fr_sub] at e
  simp [b_subtract, qD, hx.sn (by omega), hx.sd (by omega), hy.sn (by omega), hy.sd (by omega)] at e ⊢
  simp [e, qD]
theorem multiply_q {k : Nat} {x y : Rat} (hx : Qz k x) (hy : Qz k y) (hk : k ≤ 2000) : m_multiply [.im (qD x), .im (qD y)] = .ok (.im (qD (x * y))) [.im (qD x), .im (qD y)] := by
  refine Wp.eq (wp_fn ?_)
  have e := frac_ok (a := x.num * y.num) (Int.ne_of_gt (den2_pos x y)) (den2_lt hx hy hk)
  rw [fr_mul] at e
  simp [b_multiply, qD, hx.sn (by omega), hx.sd (by omega), hy.sn (by omega), hy.sd (by omega)] at e ⊢
  simp [e, qD]
theorem is_less_q {k : Nat} {x y : Rat} (hx : Qz k x) (hy : Qz k y) (hk : k ≤ 2000) : m_is_less [.im (qD x), .im (qD y)] = .ok (.im (.bl (decide (x < y)))) [.im (qD x), .im (qD y)] := by
  refine Wp.eq (wp_fn ?_)
  have e : decide (x < y) = decide (x.num * (y.den : Int) < y.num * (x.den : Int)) := by rw [decide_eq_decide]; exact Rat.lt_iff x y
  rw [e]
  simp [b_is_less, qD, hx.sn (by omega), hx.sd (by omega), hy.sn (by omega), hy.sd (by omega)]
theorem is_between_q {k : Nat} {x y z : Rat} (hx : Qz k x) (hy : Qz k y) (hz : Qz k z) (hk : k ≤ 2000) : m_is_between [.im (qD x), .im (qD y), .im (qD z)] = .ok (.im (.bl (decide (x ≤ y) && decide (y ≤ z)))) [.im (qD x), .im (qD y), .im (qD z)] := by
  refine Wp.eq (wp_fn ?_)
  have e1 : decide (x ≤ y) = !decide (y < x) := by rw [← decide_not, decide_eq_decide]; exact Rat.not_lt.symm
  have e2 : decide (y ≤ z) = !decide (z < y) := by rw [← decide_not, decide_eq_decide]; exact Rat.not_lt.symm
  rw [e1, e2]
  have l1 := is_less_q hy hx hk
  have l2 := is_less_q hz hy hk
  cases h1 : decide (y < x) <;> rw [h1] at l1 <;> simp [b_is_between, l1, l2]
theorem _law_minus_q {k : Nat} {x y : Rat} (hx : Qz k x) (hy : Qz k y) (hk : k ≤ 2000) : m__law_minus [.im (qD x), .im (qD y)] = .ok (.im (qD (x - y))) [.im (qD x), .im (qD y)] := by
  refine Wp.eq (wp_fn ?_)
  have e := low_ok (a := x.num * (y.den : Int) - y.num * (x.den : Int)) (Int.ne_of_gt (den2_pos x y)) (den2_lt hx hy hk)
  rw [fr_sub] at e
  simp [b__law_minus, qD, hx.sn (by omega), hx.sd (by omega), hy.sn (by omega), hy.sd (by omega)] at e ⊢
  simp [e, qD]
theorem _law_plus_q {k : Nat} {x y : Rat} (hx : Qz k x) (hy : Qz k y) (hk : k ≤ 2000) : m__law_plus [.im (qD x), .im (qD y)] = .ok (.im (qD (x + y))) [.im (qD x), .im (qD y)] := by
  refine Wp.eq (wp_fn ?_)
  have e := low_ok (a := x.num * (y.den : Int) + y.num * (x.den : Int)) (Int.ne_of_gt (den2_pos x y)) (den2_lt hx hy hk)
  rw [fr_add] at e
  simp [b__law_plus, qD, hx.sn (by omega), hx.sd (by omega), hy.sn (by omega), hy.sd (by omega)] at e ⊢
  simp [e, qD]
theorem _law_times_q {k : Nat} {x y : Rat} (hx : Qz k x) (hy : Qz k y) (hk : k ≤ 2000) : m__law_times [.im (qD x), .im (qD y)] = .ok (.im (qD (x * y))) [.im (qD x), .im (qD y)] := by
  refine Wp.eq (wp_fn ?_)
  have e := low_ok (a := x.num * y.num) (Int.ne_of_gt (den2_pos x y)) (den2_lt hx hy hk)
  rw [fr_mul] at e
  simp [b__law_times, qD, hx.sn (by omega), hx.sd (by omega), hy.sn (by omega), hy.sd (by omega)] at e ⊢
  simp [e, qD]
theorem _law_less_q {k : Nat} {x y : Rat} (hx : Qz k x) (hy : Qz k y) (hk : k ≤ 2000) : m__law_less [.im (qD x), .im (qD y)] = .ok (.im (.bl (decide (x < y)))) [.im (qD x), .im (qD y)] := by
  refine Wp.eq (wp_fn ?_)
  have e : decide (x < y) = decide (x.num * (y.den : Int) < y.num * (x.den : Int)) := by rw [decide_eq_decide]; exact Rat.lt_iff x y
  rw [e]
  simp [b__law_less, qD, hx.sn (by omega), hx.sd (by omega), hy.sn (by omega), hy.sd (by omega)]
theorem _law_inside_q {k : Nat} {x y z : Rat} (hx : Qz k x) (hy : Qz k y) (hz : Qz k z) (hk : k ≤ 2000) : m__law_inside [.im (qD x), .im (qD y), .im (qD z)] = .ok (.im (.bl (decide (x ≤ y) && decide (y ≤ z)))) [.im (qD x), .im (qD y), .im (qD z)] := by
  refine Wp.eq (wp_fn ?_)
  have e1 : decide (x ≤ y) = !decide (y < x) := by rw [← decide_not, decide_eq_decide]; exact Rat.not_lt.symm
  have e2 : decide (y ≤ z) = !decide (z < y) := by rw [← decide_not, decide_eq_decide]; exact Rat.not_lt.symm
  rw [e1, e2]
  have l1 := _law_less_q hy hx hk
  have l2 := _law_less_q hz hy hk
  cases h1 : decide (y < x) <;> rw [h1] at l1 <;> simp [b__law_inside, l1, l2]
end Kx

/- part -/
set_option Elab.async false
set_option linter.all false
set_option maxRecDepth 100000
set_option maxHeartbeats 1000000
namespace Kx
open PySem DL PyProof.Rows
/-! ### the ends as rational numbers -/
theorem dslow_q {b : Int} {ns : List Int} (h : Dg b ns) : m_DigitSet__low [.im (dsD b ns)] = .ok (.im (qD (loQ b ns))) [.im (dsD b ns)] := by
  rw [dslow_ok h, frD_rat (by have := h.b2; omega)]
  rfl
theorem dshigh_q {b : Int} {ns : List Int} (h : Dg b ns) : m_DigitSet__high [.im (dsD b ns)] = .ok (.im (qD (hiQ b ns))) [.im (dsD b ns)] := by
  rw [dshigh_ok h, frD_rat (by have := h.b2; omega)]
  rfl
theorem q_bd {a w : Int} (hw : 1 ≤ w) (h1 : -99 ≤ a) (h2 : a ≤ 99) : -99 ≤ (a : Rat) / (w : Rat) ∧ (a : Rat) / (w : Rat) ≤ 99 := by
  have wp : (0 : Rat) < (w : Rat) := Rat.intCast_pos.mpr (by omega)
  have w1 : (1 : Rat) ≤ (w : Rat) := Rat.intCast_le_intCast (a := 1).mpr hw
  have a1 : (-99 : Rat) ≤ (a : Rat) := Rat.intCast_le_intCast (a := -99).mpr h1
  have a2 : (a : Rat) ≤ (99 : Rat) := Rat.intCast_le_intCast (b := 99).mpr h2
  have e : (a : Rat) / (w : Rat) * (w : Rat) = (a : Rat) := Rat.div_mul_cancel (Rat.ne_of_gt wp)
  constructor
  · exact Rat.le_of_mul_le_mul_right (c := (w : Rat)) (by rw [e]; grind) wp
  · exact Rat.le_of_mul_le_mul_right (c := (w : Rat)) (by rw [e]; grind) wp
theorem fst_ab {b : Int} {ns : List Int} (h : Dg b ns) : -99 ≤ fstI ns ∧ fstI ns ≤ 99 := h.ab _ (getD_mem (by have := h.len2; omega))
theorem lst_ab {b : Int} {ns : List Int} (h : Dg b ns) : -99 ≤ lstI ns ∧ lstI ns ≤ 99 := h.ab _ (getD_mem (by have := h.len2; omega))
theorem lo_bd {b : Int} {ns : List Int} (h : Dg b ns) : -99 ≤ loQ b ns ∧ loQ b ns ≤ 99 := q_bd (by have := h.b2; omega) (fst_ab h).1 (fst_ab h).2
theorem hi_bd {b : Int} {ns : List Int} (h : Dg b ns) : -99 ≤ hiQ b ns ∧ hiQ b ns ≤ 99 := q_bd (by have := h.b2; omega) (lst_ab h).1 (lst_ab h).2
theorem q_den {a w : Int} (hw : 1 ≤ w) (h9 : w ≤ 9) : ((a : Rat) / (w : Rat)).den ≤ 9 := by
  rw [← Rat.divInt_eq_div, Rat.den_divInt, if_neg (by omega)]
  exact Nat.le_trans (Nat.div_le_self _ _) (by omega)
theorem lo_den {b : Int} {ns : List Int} (h : Dg b ns) : (loQ b ns).den ≤ 9 := q_den (by have := h.b2; omega) (by have := h.b10; omega)
theorem hi_den {b : Int} {ns : List Int} (h : Dg b ns) : (hiQ b ns).den ≤ 9 := q_den (by have := h.b2; omega) (by have := h.b10; omega)
theorem lo_hi {b : Int} {ns : List Int} (h : Dg b ns) : loQ b ns ≤ hiQ b ns := by
  have wp := w_pos h.b2
  have e1 : loQ b ns * ((b - 1 : Int) : Rat) = (fstI ns : Rat) := Rat.div_mul_cancel (Rat.ne_of_gt wp)
  have e2 : hiQ b ns * ((b - 1 : Int) : Rat) = (lstI ns : Rat) := Rat.div_mul_cancel (Rat.ne_of_gt wp)
  have f : fstI ns ≤ lstI ns := by
    have len := h.len2
    have a := List.pairwise_iff_getElem.mp h.asc 0 (ns.length - 1) (by omega) (by omega) (by omega)
    unfold fstI lstI
    simp [List.getD_eq_getElem?_getD, show 0 < ns.length by omega, show ns.length - 1 < ns.length by omega]
    omega
  refine Rat.le_of_mul_le_mul_right (c := ((b - 1 : Int) : Rat)) ?_ wp
  rw [e1, e2]
  exact Rat.intCast_le_intCast.mpr f
/-- between -m and m, with a denominator of at most d -/
theorem qz_bd {q : Rat} {m d k : Nat} (h1 : -(m : Rat) ≤ q) (h2 : q ≤ (m : Rat)) (hd : q.den ≤ d) (hm : 1 ≤ m) (hk : m * d < 2 ^ k) : Qz k q := by
  have a := num_le h1 h2
  have b : m * q.den ≤ m * d := Nat.mul_le_mul_left m hd
  have c : d ≤ m * d := Nat.le_mul_of_pos_left d hm
  exact ⟨by omega, by omega⟩
/-! ### the first digit -/
theorem find_at {α : Type} {p : α → Bool} {d : α} {l : List α} {i : Nat} (h : l[i]? = some d) (hn : ∀ c ∈ l.take i, p c = false) (hp : p d = true) : l.find? p = some d := by
  obtain ⟨hi, e⟩ := List.getElem?_eq_some_iff.mp h
  have s : l = l.take i ++ d :: l.drop (i + 1) := by
    rw [← e, ← List.drop_eq_getElem_cons hi, List.take_append_drop]
  rw [s, List.find?_append, List.find?_eq_none.mpr fun x hx => by simp [hn x hx], List.find?_cons_of_pos hp]
  rfl
theorem base_q {b : Int} {x : Rat} (h2 : 2 ≤ b) (h10 : b ≤ 10) (b1 : -99 ≤ x) (b2 : x ≤ 99) (hd : x.den ≤ 1000000000) : Qz 50 x ∧ Qz 50 (b : Rat) ∧ (-990 ≤ (b : Rat) * x ∧ (b : Rat) * x ≤ 990) ∧ ((b : Rat) * x).den ≤ 1000000000 ∧ Qz 50 ((b : Rat) * x) := by
  have bp : (0 : Rat) < (b : Rat) := Rat.intCast_pos.mpr (by omega)
  have bt : (b : Rat) ≤ (10 : Rat) := Rat.intCast_le_intCast (b := 10).mpr h10
  have m1 := Rat.mul_le_mul_of_nonneg_left b1 (Rat.le_of_lt bp)
  have m2 := Rat.mul_le_mul_of_nonneg_left b2 (Rat.le_of_lt bp)
  have y1 : -990 ≤ (b : Rat) * x := by grind
  have y2 : (b : Rat) * x ≤ 990 := by grind
  have hd2 : ((b : Rat) * x).den ≤ 1000000000 := Nat.le_trans (den_mul_le _ _) (by rw [Rat.den_intCast]; omega)
  exact ⟨qz_bd (m := 99) b1 b2 hd (by decide) (by decide), Qz.int (Nat.lt_of_lt_of_le (m := 16) (by omega) (by decide)) (by decide), ⟨y1, y2⟩, hd2, qz_bd (m := 990) y1 y2 hd2 (by decide) (by decide)⟩
theorem rest_q {b d : Int} {x : Rat} (y : -990 ≤ (b : Rat) * x ∧ (b : Rat) * x ≤ 990) (hd : x.den ≤ 1000000000) (d1 : -99 ≤ d) (d2 : d ≤ 99) : Qz 50 (d : Rat) ∧ ((b : Rat) * x - (d : Rat)).den ≤ 1000000000 ∧ Qz 50 ((b : Rat) * x - (d : Rat)) := by
  have e1 : (-99 : Rat) ≤ (d : Rat) := Rat.intCast_le_intCast (a := -99).mpr d1
  have e2 : (d : Rat) ≤ (99 : Rat) := Rat.intCast_le_intCast (b := 99).mpr d2
  have hd2 := Nat.le_trans (den_lin b d x) hd
  obtain ⟨y1, y2⟩ := y
  have z1 : -((1089 : Nat) : Rat) ≤ (b : Rat) * x - (d : Rat) := by
    show (-1089 : Rat) ≤ _
    grind
  have z2 : (b : Rat) * x - (d : Rat) ≤ ((1089 : Nat) : Rat) := by
    show _ ≤ (1089 : Rat)
    grind
  exact ⟨Qz.int (Nat.lt_of_lt_of_le (m := 128) (by omega) (by decide)) (by decide), hd2, qz_bd (m := 1089) z1 z2 hd2 (by decide) (by decide)⟩
theorem qz_lo {b : Int} {ns : List Int} (h : Dg b ns) : Qz 50 (loQ b ns) := qz_bd (m := 99) (lo_bd h).1 (lo_bd h).2 (lo_den h) (by decide) (by decide)
theorem qz_hi {b : Int} {ns : List Int} (h : Dg b ns) : Qz 50 (hiQ b ns) := qz_bd (m := 99) (hi_bd h).1 (hi_bd h).2 (hi_den h) (by decide) (by decide)
theorem first_ok {b : Int} {ns : List Int} {x : Rat} {d0 : Int} {Q : RV → SE → Prop} {E : Exc → SE → Prop} (h : Dg b ns) (h1 : loQ b ns ≤ x) (h2 : x ≤ hiQ b ns) (hd : x.den ≤ 1000000000) (hf : ns.find? (okd b ns x) = some d0) (k : Q (.im (.tup [.int d0, qD ((b : Rat) * x - (d0 : Rat))])) [.im (dsD b ns), .im (qD x)]) : WP (m_DigitSet__first_digit [.im (dsD b ns), .im (qD x)]) Q E := by
  refine wp_fn ?_
  obtain ⟨q1, q2, yb, q3, q4⟩ := base_q h.b2 h.b10 (Rat.le_trans (lo_bd h).1 h1) (Rat.le_trans h2 (hi_bd h).2) hd
  have em : m_multiply [.im (.tup [.int b, .int 1]), .im (qD x)] = .ok (.im (qD ((b : Rat) * x))) [.im (.tup [.int b, .int 1]), .im (qD x)] := multiply_q (x := (b : Rat)) q2 q1 (by decide)
  have el := dslow_q h
  have eh := dshigh_q h
  simp [b_DigitSet__first_digit, at_base, at_digits, em, el, eh]
  refine wp_floopJ (fun i ρ => (∀ c ∈ ns.take i, okd b ns x c = false) ∧ ∃ x5 x6 : SV, Imm x5 ∧ Imm x6 ∧ ρ = [.im (dsD b ns), .im (qD x), .im (qD ((b : Rat) * x)), .im (qD (loQ b ns)), .im (qD (hiQ b ns)), x5, x6]) ⟨by simp, .no, .no, .inl rfl, .inl rfl, rfl⟩ ?_ ?_
  · rintro i d ρ J hi ⟨hn, x5, x6, i5, i6, rfl⟩ hJ
    rw [List.getElem?_map] at hi
    obtain ⟨c, hc, rfl⟩ := Option.map_eq_some_iff.mp hi
    have mc := List.mem_of_getElem? hc
    obtain ⟨r1, r2, r3⟩ := rest_q (d := c) yb hd (h.ab c mc).1 (h.ab c mc).2
    have es : m_subtract [.im (qD ((b : Rat) * x)), .im (.tup [.int c, .int 1])] = .ok (.im (qD ((b : Rat) * x - (c : Rat)))) [.im (qD ((b : Rat) * x)), .im (.tup [.int c, .int 1])] := subtract_q (y := (c : Rat)) q4 r1 (by decide)
    have eb := is_between_q (qz_lo h) r3 (qz_hi h) (by decide)
    have n5 := i5.nio
    have n6 := i6.nio
    cases ho : okd b ns x c with
    | true =>
      have e := find_at hc hn ho
      rw [hf] at e
      cases e
      unfold okd at ho
      rw [ho] at eb
      simp [n5, n6, es, eb]
      exact k
    | false =>
      have ho' := ho
      unfold okd at ho
      rw [ho] at eb
      simp [n5, n6, es, eb]
      refine hJ _ ⟨fun z hz => ?_, _, _, imm_im, imm_im, rfl⟩
      obtain ⟨hi', e'⟩ := List.getElem?_eq_some_iff.mp hc
      rw [List.take_succ_eq_append_getElem hi'] at hz
      rcases List.mem_append.mp hz with z1 | z1
      · exact hn z z1
      · rw [List.mem_singleton.mp z1, e']; exact ho'
  · rintro ρ ⟨hn, x5, x6, i5, i6, rfl⟩
    rw [List.length_map, List.take_length] at hn
    have := hn d0 (List.mem_of_find?_eq_some hf)
    rw [List.find?_some hf] at this
    cases this
end Kx

/- part -/
set_option Elab.async false
set_option linter.all false
set_option maxRecDepth 100000
set_option maxHeartbeats 1000000
namespace Kx
open PySem DL PyProof.Rows
/-! ### the digits of a number -/
def dgQ (b : Int) (ns : List Int) (x : Rat) : Int := (ns.find? (okd b ns x)).getD 0
def restQ (b : Int) (ns : List Int) (x : Rat) : Nat → Rat
  | 0 => x
  | n + 1 => (b : Rat) * restQ b ns x n - (dgQ b ns (restQ b ns x n) : Rat)
def rowQ (b : Int) (ns : List Int) (x : Rat) (n : Nat) : List Int := (List.range n).map fun i => dgQ b ns (restQ b ns x i)
theorem rowQ_len {b : Int} {ns : List Int} {x : Rat} {n : Nat} : (rowQ b ns x n).length = n := by
  unfold rowQ
  simp
theorem rowQ_succ (b : Int) (ns : List Int) (x : Rat) (n : Nat) : rowQ b ns x (n + 1) = rowQ b ns x n ++ [dgQ b ns (restQ b ns x n)] := by
  unfold rowQ
  rw [List.range_succ, List.map_append]
  rfl
theorem find_dg {b : Int} {ns : List Int} (h : Dg b ns) {x : Rat} (h1 : loQ b ns ≤ x) (h2 : x ≤ hiQ b ns) : ns.find? (okd b ns x) = some (dgQ b ns x) ∧ dgQ b ns x ∈ ns ∧ okd b ns x (dgQ b ns x) = true := by
  obtain ⟨d, e, m, o⟩ := dg_find h h1 h2
  have z : dgQ b ns x = d := by
    unfold dgQ
    rw [e]
    rfl
  rw [z]
  exact ⟨e, m, o⟩
theorem okd_and {b d : Int} {ns : List Int} {x : Rat} (h : okd b ns x d = true) : loQ b ns ≤ (b : Rat) * x - (d : Rat) ∧ (b : Rat) * x - (d : Rat) ≤ hiQ b ns := by
  unfold okd at h
  rw [Bool.and_eq_true] at h
  exact ⟨of_decide_eq_true h.1, of_decide_eq_true h.2⟩
theorem rest_in {b : Int} {ns : List Int} (h : Dg b ns) {x : Rat} (h1 : loQ b ns ≤ x) (h2 : x ≤ hiQ b ns) (hd : x.den ≤ 1000000000) : ∀ n, loQ b ns ≤ restQ b ns x n ∧ restQ b ns x n ≤ hiQ b ns ∧ (restQ b ns x n).den ≤ 1000000000
  | 0 => ⟨h1, h2, hd⟩
  | n + 1 => by
    obtain ⟨a1, a2, a3⟩ := rest_in h h1 h2 hd n
    obtain ⟨_, _, o⟩ := find_dg h a1 a2
    obtain ⟨o1, o2⟩ := okd_and o
    exact ⟨o1, o2, Nat.le_trans (den_lin _ _ _) a3⟩
theorem row_ok {b : Int} {ns : List Int} {x : Rat} {n : Nat} {Q : RV → SE → Prop} {E : Exc → SE → Prop} (h : Dg b ns) (h1 : loQ b ns ≤ x) (h2 : x ≤ hiQ b ns) (hd : x.den ≤ 1000000000) (hn : n ≤ 200) (k : ∀ ρ, Q (.im (.tup ((rowQ b ns x n).map D.int))) ρ) : WP (m_DigitSet__row_of [.im (dsD b ns), .im (qD x), .im (.int n)]) Q E := by
  refine wp_fn ?_
  have c1 : (n : Int) ≤ 200 := by omega
  have c2 : 0 ≤ (n : Int) := by omega
  have gr : rngOk (n : Int) = true := rngOk_of (by omega) (by omega)
  obtain ⟨q1, _⟩ := base_q h.b2 h.b10 (Rat.le_trans (lo_bd h).1 h1) (Rat.le_trans h2 (hi_bd h).2) hd
  have eb := is_between_q (qz_lo h) q1 (qz_hi h) (by decide)
  rw [decide_eq_true h1, decide_eq_true h2] at eb
  simp [b_DigitSet__row_of, c1, c2, dslow_q h, dshigh_q h, eb, gr]
  refine wp_floopJ (fun i ρ => ∃ x4 x5 : SV, Imm x4 ∧ Imm x5 ∧ ρ = [.im (dsD b ns), .im (qD (restQ b ns x i)), .im (.int n), .ow false (.ls ((rowQ b ns x i).map D.int)), x4, x5]) ⟨.no, .no, .inl rfl, .inl rfl, rfl⟩ ?_ ?_
  · rintro i d ρ J hi ⟨x4, x5, i4, i5, rfl⟩ hJ
    rw [List.getElem?_map] at hi
    obtain ⟨c, hc, rfl⟩ := Option.map_eq_some_iff.mp hi
    have li : i < n := by
      have := (List.getElem?_eq_some_iff.mp hc).1
      simpa using this
    obtain ⟨a1, a2, a3⟩ := rest_in h h1 h2 hd i
    obtain ⟨f1, f2, f3⟩ := find_dg h a1 a2
    have n4 := i4.nio
    have n5 := i5.nio
    simp [n4, n5]
    refine first_ok h a1 a2 a3 f1 ?_
    have la : (List.map D.int (rowQ b ns x i)).length < 1000000 := by
      rw [List.length_map, rowQ_len]
      omega
    simp [n4, n5, app_ok la]
    refine hJ _ ⟨.im (.int (c : Int)), .im (.int (dgQ b ns (restQ b ns x i))), imm_im, imm_im, ?_⟩
    rw [rowQ_succ, List.map_append]
    rfl
  · rintro ρ ⟨x4, x5, i4, i5, rfl⟩
    simp
    exact k _
theorem row_count {b : Int} {ns : List Int} {x : Rat} {n : Int} {Q : RV → SE → Prop} {E : Exc → SE → Prop} (hn : ¬ (0 ≤ n ∧ n ≤ 200)) (k : ∀ ρ, E ⟨"OutOfRange", [("tag", .str "OutOfRange")]⟩ ρ) : WP (m_DigitSet__row_of [.im (dsD b ns), .im (qD x), .im (.int n)]) Q E := by
  refine wp_fn ?_
  by_cases h0 : 0 ≤ n
  · have h1 : ¬ n ≤ 200 := fun z => hn ⟨h0, z⟩
    simp [b_DigitSet__row_of, h0, h1]
    exact k _
  · simp [b_DigitSet__row_of, h0]
    exact k _
theorem row_out {b : Int} {ns : List Int} {x : Rat} {n : Int} {Q : RV → SE → Prop} {E : Exc → SE → Prop} (h : Dg b ns) (hq : Qz 50 x) (hx : ¬ (loQ b ns ≤ x ∧ x ≤ hiQ b ns)) (h0 : 0 ≤ n) (h1 : n ≤ 200) (k : ∀ ρ, E ⟨"OutOfRange", [("tag", .str "OutOfRange")]⟩ ρ) : WP (m_DigitSet__row_of [.im (dsD b ns), .im (qD x), .im (.int n)]) Q E := by
  refine wp_fn ?_
  have eb := is_between_q (qz_lo h) hq (qz_hi h) (by decide)
  have e : (decide (loQ b ns ≤ x) && decide (x ≤ hiQ b ns)) = false := by
    rw [← Bool.not_eq_true, Bool.and_eq_true]
    exact fun z => hx ⟨of_decide_eq_true z.1, of_decide_eq_true z.2⟩
  rw [e] at eb
  simp [b_DigitSet__row_of, h0, h1, dslow_q h, dshigh_q h, eb]
  exact k _
end Kx

/- part -/
set_option Elab.async false
set_option linter.all false
set_option maxRecDepth 100000
set_option maxHeartbeats 1000000
namespace Kx
open PySem DL PyProof.Rows
/-! ### numbers of the interval are drawn -/
theorem ends_q {b : Int} {ns : List Int} (h : Dg b ns) : m__law_ends [.im (.int b), .im (.lst (ns.map D.int))] = .ok (.im (.tup [qD (loQ b ns), qD (hiQ b ns)])) [.im (.int b), .im (.lst (ns.map D.int))] := by
  rw [ends_ok h, frD_rat (by have := h.b2; omega), frD_rat (by have := h.b2; omega)]
  rfl
theorem share_bd {k w : Int} (hw : 1 ≤ w) (h1 : 0 ≤ k) (h2 : k ≤ w) : 0 ≤ (k : Rat) / (w : Rat) ∧ (k : Rat) / (w : Rat) ≤ 1 := by
  have wp : (0 : Rat) < (w : Rat) := Rat.intCast_pos.mpr (by omega)
  have a1 : (0 : Rat) ≤ (k : Rat) := Rat.intCast_nonneg.mpr h1
  have a2 : (k : Rat) ≤ (w : Rat) := Rat.intCast_le_intCast.mpr h2
  have e : (k : Rat) / (w : Rat) * (w : Rat) = (k : Rat) := Rat.div_mul_cancel (Rat.ne_of_gt wp)
  constructor
  · exact Rat.le_of_mul_le_mul_right (c := (w : Rat)) (by rw [e]; grind) wp
  · exact Rat.le_of_mul_le_mul_right (c := (w : Rat)) (by rw [e]; grind) wp
theorem share_den {k w : Int} (hw : 1 ≤ w) {m : Nat} (hm : w ≤ m) : ((k : Rat) / (w : Rat)).den ≤ m := by
  rw [← Rat.divInt_eq_div, Rat.den_divInt, if_neg (by omega)]
  exact Nat.le_trans (Nat.div_le_self _ _) (by omega)
theorem inint_wp {r : List D} {lo hi : Rat} {p : Int} {Q : RV → SE → Prop} {E : Exc → SE → Prop} (hr : RngOk r) (hp : 1 ≤ p) (hp2 : p ≤ 999) (l1 : -99 ≤ lo) (l2 : lo ≤ hi) (l3 : hi ≤ 99) (d1 : lo.den ≤ 9) (d2 : hi.den ≤ 9)
    (k : ∀ x r', lo ≤ x → x ≤ hi → x.den ≤ 1000000 → RngOk r' → Q (.im (qD x)) [.ow true (.ls r'), .im (.tup [qD lo, qD hi]), .im (.int p)]) : WP (m__law_in_interval [.ow true (.ls r), .im (.tup [qD lo, qD hi]), .im (.int p)]) Q E := by
  refine wp_fn ?_
  simp [b__law_in_interval]
  refine draw_wp hr (by omega) (by omega) fun k1 r1 a1 a2 hr1 => ?_
  simp
  obtain ⟨w, hw⟩ : ∃ w, 1 + k1 = w := ⟨_, rfl⟩
  rw [hw]
  refine draw_wp hr1 (by omega) (by omega) fun k2 r2 b1 b2 hr2 => ?_
  have el : m__law_lowest [.im (.int k2), .im (.int w)] = .ok (.im (qD ((k2 : Rat) / (w : Rat)))) [.im (.int k2), .im (.int w)] := by
    rw [low_ok (by omega) (Nat.lt_of_lt_of_le (show w.natAbs < 2 ^ 10 by omega) (Nat.pow_le_pow_right (by decide) (by decide))), frD_rat (by omega)]
  obtain ⟨s1, s2⟩ := share_bd (k := k2) (w := w) (by omega) b1 (by omega)
  have s3 : ((k2 : Rat) / (w : Rat)).den ≤ 999 := share_den (m := 999) (by omega) (by omega)
  generalize (k2 : Rat) / (w : Rat) = s at *
  have lo_q : Qz 50 lo := qz_bd (m := 99) (d := 9) l1 (Rat.le_trans l2 l3) d1 (by decide) (by decide)
  have hi_q : Qz 50 hi := qz_bd (m := 99) (d := 9) (Rat.le_trans l1 l2) l3 d2 (by decide) (by decide)
  have s_q : Qz 50 s := qz_bd (m := 1) (d := 999) (by show (-1 : Rat) ≤ s; grind) s2 s3 (by decide) (by decide)
  have w1 : 0 ≤ hi - lo := by grind
  have w2 : hi - lo ≤ 198 := by grind
  have w3 : (hi - lo).den ≤ 81 := Nat.le_trans (den_sub_le _ _) (Nat.mul_le_mul d2 d1)
  have w_q : Qz 50 (hi - lo) := qz_bd (m := 198) (d := 81) (by show (-198 : Rat) ≤ _; grind) w2 w3 (by decide) (by decide)
  have p1 : 0 ≤ s * (hi - lo) := Rat.mul_nonneg s1 w1
  have p2 : s * (hi - lo) ≤ hi - lo := by
    have := Rat.mul_le_mul_of_nonneg_right s2 w1
    grind
  have p3 : (s * (hi - lo)).den ≤ 80919 := Nat.le_trans (den_mul_le _ _) (Nat.mul_le_mul s3 w3)
  have p_q : Qz 50 (s * (hi - lo)) := qz_bd (m := 198) (d := 80919) (by show (-198 : Rat) ≤ _; grind) (by show _ ≤ (198 : Rat); grind) p3 (by decide) (by decide)
  have x3 : (lo + s * (hi - lo)).den ≤ 1000000 := Nat.le_trans (den_add_le _ _) (Nat.le_trans (Nat.mul_le_mul d1 p3) (by decide))
  have e1 := _law_minus_q hi_q lo_q (by decide)
  have e2 := _law_times_q s_q w_q (by decide)
  have e3 := _law_plus_q lo_q p_q (by decide)
  simp [el, e1, e2, e3]
  exact k _ _ (by grind) (by grind) x3 hr2
/-! ### what _law_outcome tells of an error with a tag alone -/
theorem field_tag {c t : Str} (h0 : t.cps.all (· < 0x110000) = true) (h1 : ((["CircularName", "InvalidName", "DuplicateName", "WrongKind", "UndefinedName"] : List Str).any fun y => y == t) = false) (h2 : ((["InvalidText", "InvalidCommand"] : List Str).any fun y => y == t) = false)
    (h3 : (t == "InvalidMachine") = false) (h4 : (t == "LimitReached") = false) (h5 : (t == "NameInUse") = false) (h6 : (t == "InvalidDocument") = false) :
    m__law_field [.im (.exc c [("tag", .str t)])] = .ok (.im .non) [.im (.exc c [("tag", .str t)])] := by
  have tg : attrD "tag" (.exc c [("tag", .str t)]) = some (.im (.str t)) := by
    show (List.lookup ("tag" : Str) [(("tag" : Str), D.str t)]).map RV.im = _
    rw [List.lookup_cons, beq_self_eq_true]
    rfl
  have i1 := inD_strs t ["CircularName", "InvalidName", "DuplicateName", "WrongKind", "UndefinedName"]
  have i2 := inD_strs t ["InvalidText", "InvalidCommand"]
  rw [h1] at i1
  rw [h2] at i2
  simp only [List.map_cons, List.map_nil] at i1 i2
  have s : ∀ y : Str, y.cps.all (· < 0x110000) = true → (t == y) = false → eqD (.str t) (.str y) = some (.im (.bl false)) := fun y h1 h2 => by
    rw [eqD_strA (sok_of h0) (sok_of h1), h2]
  have q1 := s "InvalidMachine" (sok_lit _) h3
  have q2 := s "LimitReached" (sok_lit _) h4
  have q3 := s "NameInUse" (sok_lit _) h5
  have q4 := s "InvalidDocument" (sok_lit _) h6
  refine Wp.eq (wp_fn ?_)
  simp [b__law_field, tg, i1, i2, q1, q2, q3, q4]
theorem out_tag {c t : Str} (ok : okE c = true) (f : m__law_field [.im (.exc c [("tag", .str t)])] = .ok (.im .non) [.im (.exc c [("tag", .str t)])]) {ρ : SE} {Q : RV → SE → Prop} {E : Exc → SE → Prop} (k : Q (.im (.tup [.str t, .non])) ρ) : WP (outEx m__law_field okE ⟨c, [("tag", .str t)]⟩ ρ) Q E := by
  have e : outEx m__law_field okE ⟨c, [("tag", .str t)]⟩ ρ = .ok (.im (.tup [.str t, .non])) ρ := by
    unfold outEx
    rw [if_pos ok, f]
    show (match List.lookup ("tag" : Str) [(("tag" : Str), D.str t)], (R.ok (RV.im D.non) [] : R RV) with
      | some (.str t), .ok (.im d) _ => if flat d = true then (R.ok (.im (.tup [.str t, d])) ρ : R RV) else .bad
      | _, _ => .bad) = _
    rw [List.lookup_cons, beq_self_eq_true]
    rfl
  exact .of e k
end Kx

/- part -/
set_option Elab.async false
set_option linter.all false
set_option maxRecDepth 100000
set_option maxHeartbeats 1000000
namespace Kx
open PySem DL PyProof.Rows
theorem sorted_dg {b : Int} {ns : List Int} (h : Dg b ns) : gSorted [.lst (ns.map D.int)] = some (.ow (.ls (ns.map D.int))) := by
  rw [gSorted_intsA, sortI_id (h.asc.imp fun h => by omega)]
theorem fieldO : m__law_field [.im (.exc "OutOfRange" [("tag", .str "OutOfRange")])] = .ok (.im .non) [.im (.exc "OutOfRange" [("tag", .str "OutOfRange")])] := field_tag (sok_lit _) (by decide +kernel) (by decide +kernel) (by decide +kernel) (by decide +kernel) (by decide +kernel) (by decide +kernel)
theorem sgs_t : ∀ {n : Nat} {ns : List Int}, sg (n + 2) (.tup (ns.map D.int)) = (decide (ns.length ≤ 1000000)) := by
  intro n ns
  simp [sg, sgs_ints]
theorem q_17 : D.tup [.int 1, .int 97] = qD (1 / 97 : Rat) := by
  unfold qD
  rw [show (1 / 97 : Rat).num = 1 from by decide +kernel, show (1 / 97 : Rat).den = 97 from by decide +kernel]
  rfl
theorem q_18 : D.tup [.int 1, .int 89] = qD (1 / 89 : Rat) := by
  unfold qD
  rw [show (1 / 89 : Rat).num = 1 from by decide +kernel, show (1 / 89 : Rat).den = 89 from by decide +kernel]
  rfl
theorem q_half : D.tup [.int 1, .int 2] = qD (1 / 2 : Rat) := by
  unfold qD
  rw [show (1 / 2 : Rat).num = 1 from by decide +kernel, show (1 / 2 : Rat).den = 2 from by decide +kernel]
  rfl
theorem law_good : LawGood m_law := by
  intro sc hsc
  suffices h : WP (m_law [.im (.scr sc)]) (fun x _ => x = .im (.bl true)) noX by
    obtain ⟨x, ρ, e, rfl⟩ := Wp.some h
    exact ⟨ρ, e⟩
  refine wp_fn ?_
  simp [b_law]
  refine begin_wp hsc fun r0 hr0 => ?_
  have g8 : rngOk 5 = true := by decide
  simp [g8]
  refine wp_floopJ (fun _ ρ => ∃ (r : List D) (x2 x3 x4 x5 x6 x7 x8 x9 x10 x11 x12 x13 x14 x15 x16 x17 : SV), RngOk r ∧ Nio x2 ∧ Nio x3 ∧ Nio x4 ∧ Nio x5 ∧ Nio x6 ∧ Nio x7 ∧ Nio x8 ∧ Nio x9 ∧ Nio x10 ∧ Imm x11 ∧ Imm x12 ∧ Nio x13 ∧ Nio x14 ∧ Nio x15 ∧ Nio x16 ∧ Imm x17 ∧ ρ = [.im (.scr sc), .ow false (.ls r), x2, x3, x4, x5, x6, x7, x8, x9, x10, x11, x12, x13, x14, x15, x16, x17])
    ⟨r0, .no, .no, .no, .no, .no, .no, .no, .no, .no, .no, .no, .no, .no, .no, .no, .no, hr0, nio_no, nio_no, nio_no, nio_no, nio_no, nio_no, nio_no, nio_no, nio_no, .inl rfl, .inl rfl, nio_no, nio_no, nio_no, nio_no, .inl rfl, rfl⟩ ?_ ?_
  · rintro i d ρ J hd ⟨r, x2, x3, x4, x5, x6, x7, x8, x9, x10, x11, x12, x13, x14, x15, x16, x17, hr, h2, h3, h4, h5, h6, h7, h8, h9, h10, i11, i12, h13, h14, h15, h16, i17, rfl⟩ hJ
    have h11 := i11.nio
    have h12 := i12.nio
    rw [List.getElem?_map] at hd
    obtain ⟨j, _, hj⟩ := Option.map_eq_some_iff.mp hd
    subst hj
    simp [h2, h3]
    refine draw_wp hr (by omega) (by omega) fun k1 r1 a1 a2 hr1 => ?_
    simp [h3]
    obtain ⟨b, hb⟩ : ∃ b, 2 + k1 = b := ⟨_, rfl⟩
    rw [hb]
    refine digits_wp hr1 (by omega) (by omega) (by omega) (by omega) fun ns r2 dg hr2 => ?_
    have len := dg.len
    have lb := lo_bd dg
    have hb' := hi_bd dg
    have lh := lo_hi dg
    simp [h4, h11, h12, set_ok dg, ends_q dg]
    refine inint_wp hr2 (by omega) (by omega) lb.1 lh hb'.2 (lo_den dg) (hi_den dg) fun y1 r3 c1 c2 c3 hr3 => ?_
    simp
    refine inint_wp hr3 (by omega) (by omega) lb.1 lh hb'.2 (lo_den dg) (hi_den dg) fun y2 r4 c4 c5 c6 hr4 => ?_
    simp
    refine pick_wp hr4 (by simp) (by simp) fun d r5 hd hr5 => ?_
    obtain ⟨x, rfl, xl, xh, xd⟩ : ∃ x : Rat, d = qD x ∧ loQ b ns ≤ x ∧ x ≤ hiQ b ns ∧ x.den ≤ 1000000 := by
      simp only [List.mem_cons, List.not_mem_nil, or_false] at hd
      rcases hd with rfl | rfl | rfl | rfl
      · exact ⟨_, rfl, Rat.le_refl, lh, Nat.le_trans (lo_den dg) (by decide)⟩
      · exact ⟨_, rfl, lh, Rat.le_refl, Nat.le_trans (hi_den dg) (by decide)⟩
      · exact ⟨_, rfl, c1, c2, c3⟩
      · exact ⟨_, rfl, c4, c5, c6⟩
    simp [h5]
    refine draw_wp hr5 (by omega) (by omega) fun k3 r6 e1 e2 hr6 => ?_
    simp
    refine draw_wp hr6 (by omega) (by omega) fun k4 r7 e3 e4 hr7 => ?_
    simp
    refine pick_wp hr7 (by simp) (by simp) fun d2 r8 hd2 hr8 => ?_
    obtain ⟨n, rfl, n200⟩ : ∃ n : Nat, d2 = .int n ∧ n ≤ 200 := by
      simp only [List.mem_cons, List.not_mem_nil, or_false] at hd2
      rcases hd2 with rfl | rfl | rfl
      · exact ⟨k3.toNat, by rw [Int.toNat_of_nonneg e1], by omega⟩
      · exact ⟨k4.toNat, by rw [Int.toNat_of_nonneg e3], by omega⟩
      · exact ⟨200, rfl, by omega⟩
    have gn : rngOk (n : Int) = true := rngOk_of (by omega) (by omega)
    have xd9 : x.den ≤ 1000000000 := by omega
    simp [h6, h13, h14, gn]
    refine wp_floopJ (fun i ρ => ∃ (y7 y15 y16 y17 : SV), Nio y7 ∧ Nio y15 ∧ Nio y16 ∧ Imm y17 ∧ ρ = [.im (.scr sc), .ow false (.ls r8), .im (.int (j : Int)), .im (.int b), .im (.lst (ns.map D.int)), .im (qD x), .im (.int (n : Int)), y7, x8, x9, x10, .im (dsD b ns), .im (.tup [qD (loQ b ns), qD (hiQ b ns)]), .ow false (.ls ((rowQ b ns x i).map D.int)), .im (qD (restQ b ns x i)), y15, y16, y17])
      ⟨x7, x15, x16, x17, h7, h15, h16, i17, rfl⟩ ?_ ?_
    · rintro i d ρ J' hi ⟨y7, y15, y16, y17, g7, g15, g16, j17, rfl⟩ hJ'
      rw [List.getElem?_map] at hi
      obtain ⟨c, hc, rfl⟩ := Option.map_eq_some_iff.mp hi
      have li : i < n := by
        have := (List.getElem?_eq_some_iff.mp hc).1
        simpa using this
      obtain ⟨a1, a2, a3⟩ := rest_in dg xl xh xd9 i
      obtain ⟨f1, f2, f3⟩ := find_dg dg a1 a2
      obtain ⟨q1, q2, yb, q3, q4⟩ := base_q dg.b2 dg.b10 (Rat.le_trans lb.1 a1) (Rat.le_trans a2 hb'.2) a3
      have em : m__law_times [.im (.tup [.int b, .int 1]), .im (qD (restQ b ns x i))] = .ok (.im (qD ((b : Rat) * restQ b ns x i))) [.im (.tup [.int b, .int 1]), .im (qD (restQ b ns x i))] := _law_times_q (x := (b : Rat)) q2 q1 (by decide)
      have es : ∀ c : Int, -99 ≤ c → c ≤ 99 → m__law_minus [.im (qD ((b : Rat) * restQ b ns x i)), .im (.tup [.int c, .int 1])] = .ok (.im (qD ((b : Rat) * restQ b ns x i - (c : Rat)))) [.im (qD ((b : Rat) * restQ b ns x i)), .im (.tup [.int c, .int 1])] := fun c z1 z2 => _law_minus_q (y := (c : Rat)) q4 (rest_q (d := c) yb a3 z1 z2).1 (by decide)
      obtain ⟨tl, htl⟩ : ∃ tl, ns.filter (okd b ns (restQ b ns x i)) = dgQ b ns (restQ b ns x i) :: tl := by
        have e := List.head?_filter (p := okd b ns (restQ b ns x i)) (l := ns)
        rw [f1] at e
        exact List.head?_eq_some_iff.mp e
      simp [g7, g15, em, sorted_dg dg]
      refine wp_cfil (fun d => d) (fun d => match d with | .int c => okd b ns (restQ b ns x i) c | _ => false) ?_ (by simp; omega) (fun d hd => ?_) fun ys hy => ?_
      · rcases j17 with rfl | ⟨_, rfl⟩ <;> rfl
      · obtain ⟨c, mc, rfl⟩ := List.mem_map.mp hd
        obtain ⟨z1, z2⟩ := dg.ab c mc
        obtain ⟨r1', r2', r3'⟩ := rest_q (d := c) yb a3 z1 z2
        have eb := _law_inside_q (qz_lo dg) r3' (qz_hi dg) (by decide)
        have ec := es c z1 z2
        cases ho : okd b ns (restQ b ns x i) c with
        | true =>
          have ho' := ho
          unfold okd at ho'
          rw [ho'] at eb
          simp [ec, eb, ho, rest]
        | false =>
          have ho' := ho
          unfold okd at ho'
          rw [ho'] at eb
          simp [ec, eb, ho, rest]
      · have hy2 : ys = D.int (dgQ b ns (restQ b ns x i)) :: tl.map D.int := by
          rw [hy, List.map_id', List.filter_map]
          show List.map D.int (ns.filter (okd b ns (restQ b ns x i))) = _
          rw [htl]
          rfl
        subst hy2
        have la : (List.map D.int (rowQ b ns x i)).length < 1000000 := by
          rw [List.length_map, rowQ_len]
          omega
        obtain ⟨z1, z2⟩ := dg.ab _ f2
        have ec := es _ z1 z2
        simp [g15, g16, app_ok la, ec]
        refine hJ' _ ⟨.im (.int (c : Int)), .im (qD ((b : Rat) * restQ b ns x i)), .ow false (.ls (D.int (dgQ b ns (restQ b ns x i)) :: tl.map D.int)), y17, nio_im, nio_im, nio_ow, j17, ?_⟩
        rw [rowQ_succ, List.map_append]
        rfl
    · rintro ρ ⟨y7, y15, y16, y17, g7, g15, g16, j17, rfl⟩
      rw [List.length_map, List.length_range]
      simp
      refine row_ok dg xl xh xd9 n200 fun ρ' => ?_
      have ss := same_self 8 (.tup ((rowQ b ns x n).map D.int)) (by
        rw [sgs_t, rowQ_len]
        exact decide_eq_true (by omega))
      have qa : Qz 50 (1 / 97 : Rat) := ⟨by decide +kernel, by decide +kernel⟩
      have qb : Qz 50 (1 / 89 : Rat) := ⟨by decide +kernel, by decide +kernel⟩
      have ea : m__law_plus [.im (qD (hiQ b ns)), .im (.tup [.int 1, .int 97])] = .ok (.im (qD (hiQ b ns + 1 / 97))) [.im (qD (hiQ b ns)), .im (.tup [.int 1, .int 97])] := by
        rw [q_17]
        exact _law_plus_q (qz_hi dg) qa (by decide)
      have eb : m__law_minus [.im (qD (loQ b ns)), .im (.tup [.int 1, .int 89])] = .ok (.im (qD (loQ b ns - 1 / 89))) [.im (qD (loQ b ns)), .im (.tup [.int 1, .int 89])] := by
        rw [q_18]
        exact _law_minus_q (qz_lo dg) qb (by decide)
      simp [ss, ea, eb]
      refine pick_wp hr8 (by simp) (by simp) fun d3 r9 hd3 hr9 => ?_
      obtain ⟨y, rfl, yq, yo⟩ : ∃ y : Rat, d3 = qD y ∧ Qz 50 y ∧ ¬ (loQ b ns ≤ y ∧ y ≤ hiQ b ns) := by
        simp only [List.mem_cons, List.not_mem_nil, or_false] at hd3
        rcases hd3 with rfl | rfl
        · refine ⟨_, rfl, qz_bd (m := 100) (d := 873) (by show (-100 : Rat) ≤ _; grind) (by show _ ≤ (100 : Rat); grind) (Nat.le_trans (den_add_le _ _) (Nat.mul_le_mul (hi_den dg) (show (1 / 97 : Rat).den ≤ 97 from by decide +kernel))) (by decide) (by decide), by grind⟩
        · refine ⟨_, rfl, qz_bd (m := 100) (d := 801) (by show (-100 : Rat) ≤ _; grind) (by show _ ≤ (100 : Rat); grind) (Nat.le_trans (den_sub_le _ _) (Nat.mul_le_mul (lo_den dg) (show (1 / 89 : Rat).den ≤ 89 from by decide +kernel))) (by decide) (by decide), by grind⟩
      have t20 : powD (.int 10) (.int 20) = some (.im (.int 100000000000000000000)) := by rfl
      simp [h8, t20]
      refine pick_wp hr9 (by simp) (by simp) fun d4 r10 hd4 hr10 => ?_
      obtain ⟨o, rfl, oo⟩ : ∃ o : Int, d4 = .int o ∧ ¬ (0 ≤ o ∧ o ≤ 200) := by
        simp only [List.mem_cons, List.not_mem_nil, or_false] at hd4
        rcases hd4 with rfl | rfl | rfl <;> exact ⟨_, rfl, by omega⟩
      simp [h9]
      refine row_out dg yq yo (by omega) (by omega) fun ρ1 => ?_
      simp
      refine out_tag (by decide +kernel) fieldO ?_
      simp
      refine row_count oo fun ρ2 => ?_
      simp
      refine out_tag (by decide +kernel) fieldO ?_
      have e2 : repD (.lst [.str "OutOfRange"]) (.int 2) = some (.ow (.ls [.str "OutOfRange", .str "OutOfRange"])) := rfl
      have sO : (Str.ofString "OutOfRange").cps.all (· < 0x110000) = true := lit_ok _
      have nn : neD (.lst [.str "OutOfRange", .str "OutOfRange"]) (.lst [.str "OutOfRange", .str "OutOfRange"]) = some (.im (.bl false)) := ne_self (n := 2) (by simp [pg, pgs, sO]) (by decide)
      simp [h10, e2, nn]
      exact hJ _ ⟨_, _, _, _, _, _, _, _, _, _, _, _, _, _, _, _, _, hr10, nio_im, nio_im, nio_im, nio_im, nio_im, g7, nio_im, nio_im, nio_ow, imm_im, imm_im, nio_ow, nio_im, g15, g16, j17, rfl⟩
  · rintro ρ ⟨r, x2, x3, x4, x5, x6, x7, x8, x9, x10, x11, x12, x13, x14, x15, x16, x17, hr, h2, h3, h4, h5, h6, h7, h8, h9, h10, i11, i12, h13, h14, h15, h16, i17, rfl⟩
    have d3 : Dg 3 [0, 1, 2] := ⟨by decide, by decide, by decide, by decide, by decide, by decide, by decide⟩
    have i3 := init_ok d3 (src := .tup [.int 0, .int 1, .int 2]) (gSorted_tupA (ns := [0, 1, 2]))
    have l1 : loQ 3 [0, 1, 2] ≤ 1 / 2 := by decide +kernel
    have l2 : 1 / 2 ≤ hiQ 3 [0, 1, 2] := by decide +kernel
    simp [i3]
    rw [q_half]
    refine row_ok d3 l1 l2 (by decide +kernel) (n := 200) (by decide) fun ρ' => ?_
    have rl := rowQ_len (b := 3) (ns := [0, 1, 2]) (x := 1 / 2) (n := 200)
    generalize rowQ 3 [0, 1, 2] (1 / 2) 200 = z at rl
    simp [rl]
end Kx

/- part -/
set_option Elab.async false
set_option linter.all false
set_option maxRecDepth 100000
set_option maxHeartbeats 4000000
namespace Kx
noncomputable section
open PySem PySem.Spec PyProof.Rows L2 DL
abbrev si_InvalidBase : Stmt := L2.inClass (topS 3) 0
theorem sci_InvalidBase : FnScope ["self"] ["self"] (defScope si_InvalidBase) := ⟨rfl, rfl, rfl, by decide +kernel, rfl, by decide +kernel, by decide +kernel⟩
abbrev si_InvalidDigits : Stmt := L2.inClass (topS 4) 0
theorem sci_InvalidDigits : FnScope ["self"] ["self"] (defScope si_InvalidDigits) := ⟨rfl, rfl, rfl, by decide +kernel, rfl, by decide +kernel, by decide +kernel⟩
abbrev si_OutOfRange : Stmt := L2.inClass (topS 6) 0
theorem sci_OutOfRange : FnScope ["self"] ["self"] (defScope si_OutOfRange) := ⟨rfl, rfl, rfl, by decide +kernel, rfl, by decide +kernel, by decide +kernel⟩
open PySem.W in
theorem all_mk {l : PySem.W.OpenLaw} {w : World} {K : PySem.W.Frag} {h : Heap} {mg : Str → Option Value} {fa f__law_begin f__law_draw f__law_pick f__law_are_digits f__law_digits f__law_lowest f__law_ends f_are_digits f_DigitSet____init__ f__law_set f__law_plus f__law_times f__law_minus f__law_in_interval f__law_less f__law_inside f__law_same f_is_less f_is_between f_common_divisor f_fraction f_DigitSet__high f_DigitSet__low f_multiply f_subtract f_DigitSet__first_digit f_DigitSet__row_of f_law f__law_outcome f__law_field f__law_tag C_DigitSet T_fraction e1 e2 e3 c Pt C_InvalidBase i_InvalidBase N_InvalidBase C_InvalidDigits i_InvalidDigits N_InvalidDigits C_OutOfRange i_OutOfRange N_OutOfRange : Addr} (X : K.In h) (G : h.Ns mainGlobals mg) (hfa : mg "law" = some (.ref fa)) (own : LamX.OwnTab K fa h)
    {od__law_begin an__law_begin od__law_draw an__law_draw od__law_pick an__law_pick od__law_are_digits an__law_are_digits od__law_digits an__law_digits od__law_lowest an__law_lowest od__law_ends an__law_ends od_are_digits an_are_digits od_DigitSet____init__ an_DigitSet____init__ od__law_set an__law_set od__law_plus an__law_plus od__law_times an__law_times od__law_minus an__law_minus od__law_in_interval an__law_in_interval od__law_less an__law_less od__law_inside an__law_inside od__law_same an__law_same od_is_less an_is_less od_is_between an_is_between od_common_divisor an_common_divisor od_fraction an_fraction od_DigitSet__high an_DigitSet__high od_DigitSet__low an_DigitSet__low od_multiply an_multiply od_subtract an_subtract od_DigitSet__first_digit an_DigitSet__first_digit od_DigitSet__row_of an_DigitSet__row_of od_law an_law od__law_outcome an__law_outcome od__law_field an__law_field od__law_tag an__law_tag od_InvalidBase an_InvalidBase od_InvalidDigits an_InvalidDigits od_OutOfRange an_OutOfRange : Option Addr} {sl__law_begin sl__law_draw sl__law_pick sl__law_are_digits sl__law_digits sl__law_lowest sl__law_ends sl_are_digits sl_DigitSet____init__ sl__law_set sl__law_plus sl__law_times sl__law_minus sl__law_in_interval sl__law_less sl__law_inside sl__law_same sl_is_less sl_is_between sl_common_divisor sl_fraction sl_DigitSet__high sl_DigitSet__low sl_multiply sl_subtract sl_DigitSet__first_digit sl_DigitSet__row_of sl_law sl__law_outcome sl__law_field sl__law_tag sl_InvalidBase sl_InvalidDigits sl_OutOfRange : Array (Option Value)} {oc__law_begin kV__law_begin dc__law_begin pm__law_begin ct__law_begin cd__law_begin oc__law_draw kV__law_draw dc__law_draw pm__law_draw ct__law_draw cd__law_draw oc__law_pick kV__law_pick dc__law_pick pm__law_pick ct__law_pick cd__law_pick oc__law_are_digits kV__law_are_digits dc__law_are_digits pm__law_are_digits ct__law_are_digits cd__law_are_digits oc__law_digits kV__law_digits dc__law_digits pm__law_digits ct__law_digits cd__law_digits oc__law_lowest kV__law_lowest dc__law_lowest pm__law_lowest ct__law_lowest cd__law_lowest oc__law_ends kV__law_ends dc__law_ends pm__law_ends ct__law_ends cd__law_ends oc_are_digits kV_are_digits dc_are_digits pm_are_digits ct_are_digits cd_are_digits oc_DigitSet____init__ kV_DigitSet____init__ dc_DigitSet____init__ pm_DigitSet____init__ ct_DigitSet____init__ cd_DigitSet____init__ oc__law_set kV__law_set dc__law_set pm__law_set ct__law_set cd__law_set oc__law_plus kV__law_plus dc__law_plus pm__law_plus ct__law_plus cd__law_plus oc__law_times kV__law_times dc__law_times pm__law_times ct__law_times cd__law_times oc__law_minus kV__law_minus dc__law_minus pm__law_minus ct__law_minus cd__law_minus oc__law_in_interval kV__law_in_interval dc__law_in_interval pm__law_in_interval ct__law_in_interval cd__law_in_interval oc__law_less kV__law_less dc__law_less pm__law_less ct__law_less cd__law_less oc__law_inside kV__law_inside dc__law_inside pm__law_inside ct__law_inside cd__law_inside oc__law_same kV__law_same dc__law_same pm__law_same ct__law_same cd__law_same oc_is_less kV_is_less dc_is_less pm_is_less ct_is_less cd_is_less oc_is_between kV_is_between dc_is_between pm_is_between ct_is_between cd_is_between oc_common_divisor kV_common_divisor dc_common_divisor pm_common_divisor ct_common_divisor cd_common_divisor oc_fraction kV_fraction dc_fraction pm_fraction ct_fraction cd_fraction oc_DigitSet__high kV_DigitSet__high dc_DigitSet__high pm_DigitSet__high ct_DigitSet__high cd_DigitSet__high oc_DigitSet__low kV_DigitSet__low dc_DigitSet__low pm_DigitSet__low ct_DigitSet__low cd_DigitSet__low oc_multiply kV_multiply dc_multiply pm_multiply ct_multiply cd_multiply oc_subtract kV_subtract dc_subtract pm_subtract ct_subtract cd_subtract oc_DigitSet__first_digit kV_DigitSet__first_digit dc_DigitSet__first_digit pm_DigitSet__first_digit ct_DigitSet__first_digit cd_DigitSet__first_digit oc_DigitSet__row_of kV_DigitSet__row_of dc_DigitSet__row_of pm_DigitSet__row_of ct_DigitSet__row_of cd_DigitSet__row_of oc_law kV_law dc_law pm_law ct_law oc__law_outcome kV__law_outcome dc__law_outcome pm__law_outcome ct__law_outcome cd__law_outcome oc__law_field kV__law_field dc__law_field pm__law_field ct__law_field cd__law_field oc__law_tag kV__law_tag dc__law_tag pm__law_tag ct__law_tag cd__law_tag oc_InvalidBase kV_InvalidBase dc_InvalidBase pm_InvalidBase ct_InvalidBase cd_InvalidBase oc_InvalidDigits kV_InvalidDigits dc_InvalidDigits pm_InvalidDigits ct_InvalidDigits cd_InvalidDigits oc_OutOfRange kV_OutOfRange dc_OutOfRange pm_OutOfRange ct_OutOfRange cd_OutOfRange : Value}
    (a_DigitSet : nsIn K mainGlobals "DigitSet" = some (some (.ref C_DigitSet)))
    (pg_DigitSet : plainGet K C_DigitSet Str.empty = true)
    (hd_DigitSet : hasDictIn K C_DigitSet = true)
    (po_DigitSet : plainOver K C_DigitSet = true)
    (sa_DigitSet : findIn K (.ref C_DigitSet) "__setattr__" = some (some (.builtin "object.__setattr__")))
    (mk_DigitSet : makesIn K C_DigitSet = true)
    (kC_DigitSet : keepIn K (.ref C_DigitSet) = true)
    (no0_DigitSet : findIn K (.ref C_DigitSet) "base" = some none)
    (no1_DigitSet : findIn K (.ref C_DigitSet) "digits" = some none)
    (a__law_begin : nsIn K mainGlobals "_law_begin" = some (some (.ref f__law_begin)))
    (l__law_begin : K.lookup f__law_begin = some ⟨oc__law_begin, od__law_begin, .func (fnOf "_law_begin" "_law_begin" (defArgs s__law_begin) (defBody s__law_begin) (defScope s__law_begin) .none kV__law_begin dc__law_begin pm__law_begin an__law_begin cd__law_begin ct__law_begin), sl__law_begin⟩)
    (e__law_begin : codeIn K cd__law_begin "_law_begin" = true)
    (k__law_begin : keepIn K (.ref f__law_begin) = true)
    (a__law_draw : nsIn K mainGlobals "_law_draw" = some (some (.ref f__law_draw)))
    (l__law_draw : K.lookup f__law_draw = some ⟨oc__law_draw, od__law_draw, .func (fnOf "_law_draw" "_law_draw" (defArgs s__law_draw) (defBody s__law_draw) (defScope s__law_draw) .none kV__law_draw dc__law_draw pm__law_draw an__law_draw cd__law_draw ct__law_draw), sl__law_draw⟩)
    (e__law_draw : codeIn K cd__law_draw "_law_draw" = true)
    (k__law_draw : keepIn K (.ref f__law_draw) = true)
    (a__law_pick : nsIn K mainGlobals "_law_pick" = some (some (.ref f__law_pick)))
    (l__law_pick : K.lookup f__law_pick = some ⟨oc__law_pick, od__law_pick, .func (fnOf "_law_pick" "_law_pick" (defArgs s__law_pick) (defBody s__law_pick) (defScope s__law_pick) .none kV__law_pick dc__law_pick pm__law_pick an__law_pick cd__law_pick ct__law_pick), sl__law_pick⟩)
    (e__law_pick : codeIn K cd__law_pick "_law_pick" = true)
    (k__law_pick : keepIn K (.ref f__law_pick) = true)
    (a__law_are_digits : nsIn K mainGlobals "_law_are_digits" = some (some (.ref f__law_are_digits)))
    (l__law_are_digits : K.lookup f__law_are_digits = some ⟨oc__law_are_digits, od__law_are_digits, .func (fnOf "_law_are_digits" "_law_are_digits" (defArgs s__law_are_digits) (defBody s__law_are_digits) (defScope s__law_are_digits) .none kV__law_are_digits dc__law_are_digits pm__law_are_digits an__law_are_digits cd__law_are_digits ct__law_are_digits), sl__law_are_digits⟩)
    (e__law_are_digits : codeIn K cd__law_are_digits "_law_are_digits" = true)
    (k__law_are_digits : keepIn K (.ref f__law_are_digits) = true)
    (a__law_digits : nsIn K mainGlobals "_law_digits" = some (some (.ref f__law_digits)))
    (l__law_digits : K.lookup f__law_digits = some ⟨oc__law_digits, od__law_digits, .func (fnOf "_law_digits" "_law_digits" (defArgs s__law_digits) (defBody s__law_digits) (defScope s__law_digits) .none kV__law_digits dc__law_digits pm__law_digits an__law_digits cd__law_digits ct__law_digits), sl__law_digits⟩)
    (e__law_digits : codeIn K cd__law_digits "_law_digits" = true)
    (k__law_digits : keepIn K (.ref f__law_digits) = true)
    (a__law_lowest : nsIn K mainGlobals "_law_lowest" = some (some (.ref f__law_lowest)))
    (l__law_lowest : K.lookup f__law_lowest = some ⟨oc__law_lowest, od__law_lowest, .func (fnOf "_law_lowest" "_law_lowest" (defArgs s__law_lowest) (defBody s__law_lowest) (defScope s__law_lowest) .none kV__law_lowest dc__law_lowest pm__law_lowest an__law_lowest cd__law_lowest ct__law_lowest), sl__law_lowest⟩)
    (e__law_lowest : codeIn K cd__law_lowest "_law_lowest" = true)
    (k__law_lowest : keepIn K (.ref f__law_lowest) = true)
    (a__law_ends : nsIn K mainGlobals "_law_ends" = some (some (.ref f__law_ends)))
    (l__law_ends : K.lookup f__law_ends = some ⟨oc__law_ends, od__law_ends, .func (fnOf "_law_ends" "_law_ends" (defArgs s__law_ends) (defBody s__law_ends) (defScope s__law_ends) .none kV__law_ends dc__law_ends pm__law_ends an__law_ends cd__law_ends ct__law_ends), sl__law_ends⟩)
    (e__law_ends : codeIn K cd__law_ends "_law_ends" = true)
    (k__law_ends : keepIn K (.ref f__law_ends) = true)
    (a_are_digits : nsIn K mainGlobals "are_digits" = some (some (.ref f_are_digits)))
    (l_are_digits : K.lookup f_are_digits = some ⟨oc_are_digits, od_are_digits, .func (fnOf "are_digits" "are_digits" (defArgs s_are_digits) (defBody s_are_digits) (defScope s_are_digits) .none kV_are_digits dc_are_digits pm_are_digits an_are_digits cd_are_digits ct_are_digits), sl_are_digits⟩)
    (e_are_digits : codeIn K cd_are_digits "are_digits" = true)
    (k_are_digits : keepIn K (.ref f_are_digits) = true)
    (a_DigitSet____init__ : findIn K (.ref C_DigitSet) "__init__" = some (some (.ref f_DigitSet____init__)))
    (j_DigitSet____init__ : isFn K (.ref f_DigitSet____init__) = true)
    (l_DigitSet____init__ : K.lookup f_DigitSet____init__ = some ⟨oc_DigitSet____init__, od_DigitSet____init__, .func (fnOf "__init__" "DigitSet.__init__" (defArgs s_DigitSet____init__) (defBody s_DigitSet____init__) (defScope s_DigitSet____init__) .none kV_DigitSet____init__ dc_DigitSet____init__ pm_DigitSet____init__ an_DigitSet____init__ cd_DigitSet____init__ ct_DigitSet____init__), sl_DigitSet____init__⟩)
    (e_DigitSet____init__ : codeIn K cd_DigitSet____init__ "DigitSet.__init__" = true)
    (k_DigitSet____init__ : keepIn K (.ref f_DigitSet____init__) = true)
    (a__law_set : nsIn K mainGlobals "_law_set" = some (some (.ref f__law_set)))
    (l__law_set : K.lookup f__law_set = some ⟨oc__law_set, od__law_set, .func (fnOf "_law_set" "_law_set" (defArgs s__law_set) (defBody s__law_set) (defScope s__law_set) .none kV__law_set dc__law_set pm__law_set an__law_set cd__law_set ct__law_set), sl__law_set⟩)
    (e__law_set : codeIn K cd__law_set "_law_set" = true)
    (k__law_set : keepIn K (.ref f__law_set) = true)
    (a__law_plus : nsIn K mainGlobals "_law_plus" = some (some (.ref f__law_plus)))
    (l__law_plus : K.lookup f__law_plus = some ⟨oc__law_plus, od__law_plus, .func (fnOf "_law_plus" "_law_plus" (defArgs s__law_plus) (defBody s__law_plus) (defScope s__law_plus) .none kV__law_plus dc__law_plus pm__law_plus an__law_plus cd__law_plus ct__law_plus), sl__law_plus⟩)
    (e__law_plus : codeIn K cd__law_plus "_law_plus" = true)
    (k__law_plus : keepIn K (.ref f__law_plus) = true)
    (a__law_times : nsIn K mainGlobals "_law_times" = some (some (.ref f__law_times)))
    (l__law_times : K.lookup f__law_times = some ⟨oc__law_times, od__law_times, .func (fnOf "_law_times" "_law_times" (defArgs s__law_times) (defBody s__law_times) (defScope s__law_times) .none kV__law_times dc__law_times pm__law_times an__law_times cd__law_times ct__law_times), sl__law_times⟩)
    (e__law_times : codeIn K cd__law_times "_law_times" = true)
    (k__law_times : keepIn K (.ref f__law_times) = true)
    (a__law_minus : nsIn K mainGlobals "_law_minus" = some (some (.ref f__law_minus)))
    (l__law_minus : K.lookup f__law_minus = some ⟨oc__law_minus, od__law_minus, .func (fnOf "_law_minus" "_law_minus" (defArgs s__law_minus) (defBody s__law_minus) (defScope s__law_minus) .none kV__law_minus dc__law_minus pm__law_minus an__law_minus cd__law_minus ct__law_minus), sl__law_minus⟩)
    (e__law_minus : codeIn K cd__law_minus "_law_minus" = true)
    (k__law_minus : keepIn K (.ref f__law_minus) = true)
    (a__law_in_interval : nsIn K mainGlobals "_law_in_interval" = some (some (.ref f__law_in_interval)))
    (l__law_in_interval : K.lookup f__law_in_interval = some ⟨oc__law_in_interval, od__law_in_interval, .func (fnOf "_law_in_interval" "_law_in_interval" (defArgs s__law_in_interval) (defBody s__law_in_interval) (defScope s__law_in_interval) .none kV__law_in_interval dc__law_in_interval pm__law_in_interval an__law_in_interval cd__law_in_interval ct__law_in_interval), sl__law_in_interval⟩)
    (e__law_in_interval : codeIn K cd__law_in_interval "_law_in_interval" = true)
    (k__law_in_interval : keepIn K (.ref f__law_in_interval) = true)
    (a__law_less : nsIn K mainGlobals "_law_less" = some (some (.ref f__law_less)))
    (l__law_less : K.lookup f__law_less = some ⟨oc__law_less, od__law_less, .func (fnOf "_law_less" "_law_less" (defArgs s__law_less) (defBody s__law_less) (defScope s__law_less) .none kV__law_less dc__law_less pm__law_less an__law_less cd__law_less ct__law_less), sl__law_less⟩)
    (e__law_less : codeIn K cd__law_less "_law_less" = true)
    (k__law_less : keepIn K (.ref f__law_less) = true)
    (a__law_inside : nsIn K mainGlobals "_law_inside" = some (some (.ref f__law_inside)))
    (l__law_inside : K.lookup f__law_inside = some ⟨oc__law_inside, od__law_inside, .func (fnOf "_law_inside" "_law_inside" (defArgs s__law_inside) (defBody s__law_inside) (defScope s__law_inside) .none kV__law_inside dc__law_inside pm__law_inside an__law_inside cd__law_inside ct__law_inside), sl__law_inside⟩)
    (e__law_inside : codeIn K cd__law_inside "_law_inside" = true)
    (k__law_inside : keepIn K (.ref f__law_inside) = true)
    (a__law_same : nsIn K mainGlobals "_law_same" = some (some (.ref f__law_same)))
    (l__law_same : K.lookup f__law_same = some ⟨oc__law_same, od__law_same, .func (fnOf "_law_same" "_law_same" (defArgs s__law_same) (defBody s__law_same) (defScope s__law_same) .none kV__law_same dc__law_same pm__law_same an__law_same cd__law_same ct__law_same), sl__law_same⟩)
    (e__law_same : codeIn K cd__law_same "_law_same" = true)
    (k__law_same : keepIn K (.ref f__law_same) = true)
    (a_is_less : nsIn K mainGlobals "is_less" = some (some (.ref f_is_less)))
    (l_is_less : K.lookup f_is_less = some ⟨oc_is_less, od_is_less, .func (fnOf "is_less" "is_less" (defArgs s_is_less) (defBody s_is_less) (defScope s_is_less) .none kV_is_less dc_is_less pm_is_less an_is_less cd_is_less ct_is_less), sl_is_less⟩)
    (e_is_less : codeIn K cd_is_less "is_less" = true)
    (k_is_less : keepIn K (.ref f_is_less) = true)
    (a_is_between : nsIn K mainGlobals "is_between" = some (some (.ref f_is_between)))
    (l_is_between : K.lookup f_is_between = some ⟨oc_is_between, od_is_between, .func (fnOf "is_between" "is_between" (defArgs s_is_between) (defBody s_is_between) (defScope s_is_between) .none kV_is_between dc_is_between pm_is_between an_is_between cd_is_between ct_is_between), sl_is_between⟩)
    (e_is_between : codeIn K cd_is_between "is_between" = true)
    (k_is_between : keepIn K (.ref f_is_between) = true)
    (a_common_divisor : nsIn K mainGlobals "common_divisor" = some (some (.ref f_common_divisor)))
    (l_common_divisor : K.lookup f_common_divisor = some ⟨oc_common_divisor, od_common_divisor, .func (fnOf "common_divisor" "common_divisor" (defArgs s_common_divisor) (defBody s_common_divisor) (defScope s_common_divisor) .none kV_common_divisor dc_common_divisor pm_common_divisor an_common_divisor cd_common_divisor ct_common_divisor), sl_common_divisor⟩)
    (e_common_divisor : codeIn K cd_common_divisor "common_divisor" = true)
    (k_common_divisor : keepIn K (.ref f_common_divisor) = true)
    (a_fraction : nsIn K mainGlobals "fraction" = some (some (.ref f_fraction)))
    (l_fraction : K.lookup f_fraction = some ⟨oc_fraction, od_fraction, .func (fnOf "fraction" "fraction" (defArgs s_fraction) (defBody s_fraction) (defScope s_fraction) (.ref T_fraction) kV_fraction dc_fraction pm_fraction an_fraction cd_fraction ct_fraction), sl_fraction⟩)
    (e_fraction : codeIn K cd_fraction "fraction" = true)
    (k_fraction : keepIn K (.ref f_fraction) = true)
    {tc_fraction : Value} {td_fraction : Option Addr} {ti_fraction : Array Value} {tn_fraction : Nat} {ts_fraction : Array (Option Value)}
    (dt_fraction : K.lookup T_fraction = some ⟨tc_fraction, td_fraction, .seq ti_fraction tn_fraction, ts_fraction⟩)
    (dv_fraction : Vals [V.int 1] ti_fraction.toList)
    (a_DigitSet__high : findIn K (.ref C_DigitSet) "high" = some (some (.ref f_DigitSet__high)))
    (j_DigitSet__high : isFn K (.ref f_DigitSet__high) = true)
    (l_DigitSet__high : K.lookup f_DigitSet__high = some ⟨oc_DigitSet__high, od_DigitSet__high, .func (fnOf "high" "DigitSet.high" (defArgs s_DigitSet__high) (defBody s_DigitSet__high) (defScope s_DigitSet__high) .none kV_DigitSet__high dc_DigitSet__high pm_DigitSet__high an_DigitSet__high cd_DigitSet__high ct_DigitSet__high), sl_DigitSet__high⟩)
    (e_DigitSet__high : codeIn K cd_DigitSet__high "DigitSet.high" = true)
    (k_DigitSet__high : keepIn K (.ref f_DigitSet__high) = true)
    (a_DigitSet__low : findIn K (.ref C_DigitSet) "low" = some (some (.ref f_DigitSet__low)))
    (j_DigitSet__low : isFn K (.ref f_DigitSet__low) = true)
    (l_DigitSet__low : K.lookup f_DigitSet__low = some ⟨oc_DigitSet__low, od_DigitSet__low, .func (fnOf "low" "DigitSet.low" (defArgs s_DigitSet__low) (defBody s_DigitSet__low) (defScope s_DigitSet__low) .none kV_DigitSet__low dc_DigitSet__low pm_DigitSet__low an_DigitSet__low cd_DigitSet__low ct_DigitSet__low), sl_DigitSet__low⟩)
    (e_DigitSet__low : codeIn K cd_DigitSet__low "DigitSet.low" = true)
    (k_DigitSet__low : keepIn K (.ref f_DigitSet__low) = true)
    (a_multiply : nsIn K mainGlobals "multiply" = some (some (.ref f_multiply)))
    (l_multiply : K.lookup f_multiply = some ⟨oc_multiply, od_multiply, .func (fnOf "multiply" "multiply" (defArgs s_multiply) (defBody s_multiply) (defScope s_multiply) .none kV_multiply dc_multiply pm_multiply an_multiply cd_multiply ct_multiply), sl_multiply⟩)
    (e_multiply : codeIn K cd_multiply "multiply" = true)
    (k_multiply : keepIn K (.ref f_multiply) = true)
    (a_subtract : nsIn K mainGlobals "subtract" = some (some (.ref f_subtract)))
    (l_subtract : K.lookup f_subtract = some ⟨oc_subtract, od_subtract, .func (fnOf "subtract" "subtract" (defArgs s_subtract) (defBody s_subtract) (defScope s_subtract) .none kV_subtract dc_subtract pm_subtract an_subtract cd_subtract ct_subtract), sl_subtract⟩)
    (e_subtract : codeIn K cd_subtract "subtract" = true)
    (k_subtract : keepIn K (.ref f_subtract) = true)
    (a_DigitSet__first_digit : findIn K (.ref C_DigitSet) "first_digit" = some (some (.ref f_DigitSet__first_digit)))
    (j_DigitSet__first_digit : isFn K (.ref f_DigitSet__first_digit) = true)
    (l_DigitSet__first_digit : K.lookup f_DigitSet__first_digit = some ⟨oc_DigitSet__first_digit, od_DigitSet__first_digit, .func (fnOf "first_digit" "DigitSet.first_digit" (defArgs s_DigitSet__first_digit) (defBody s_DigitSet__first_digit) (defScope s_DigitSet__first_digit) .none kV_DigitSet__first_digit dc_DigitSet__first_digit pm_DigitSet__first_digit an_DigitSet__first_digit cd_DigitSet__first_digit ct_DigitSet__first_digit), sl_DigitSet__first_digit⟩)
    (e_DigitSet__first_digit : codeIn K cd_DigitSet__first_digit "DigitSet.first_digit" = true)
    (k_DigitSet__first_digit : keepIn K (.ref f_DigitSet__first_digit) = true)
    (a_DigitSet__row_of : findIn K (.ref C_DigitSet) "row_of" = some (some (.ref f_DigitSet__row_of)))
    (j_DigitSet__row_of : isFn K (.ref f_DigitSet__row_of) = true)
    (l_DigitSet__row_of : K.lookup f_DigitSet__row_of = some ⟨oc_DigitSet__row_of, od_DigitSet__row_of, .func (fnOf "row_of" "DigitSet.row_of" (defArgs s_DigitSet__row_of) (defBody s_DigitSet__row_of) (defScope s_DigitSet__row_of) .none kV_DigitSet__row_of dc_DigitSet__row_of pm_DigitSet__row_of an_DigitSet__row_of cd_DigitSet__row_of ct_DigitSet__row_of), sl_DigitSet__row_of⟩)
    (e_DigitSet__row_of : codeIn K cd_DigitSet__row_of "DigitSet.row_of" = true)
    (k_DigitSet__row_of : keepIn K (.ref f_DigitSet__row_of) = true)
    (a_law : nsIn K mainGlobals "law" = some (some (.ref f_law)))
    (l_law : K.lookup f_law = some ⟨oc_law, od_law, .func (fnOf "law" "law" (defArgs s_law) (defBody s_law) (defScope s_law) .none kV_law dc_law pm_law an_law (.ref c) ct_law), sl_law⟩)
    (e_law : codeIn K (.ref c) "law" = true)
    (k_law : keepIn K (.ref f_law) = true)
    (a__law_outcome : nsIn K mainGlobals "_law_outcome" = some (some (.ref f__law_outcome)))
    (l__law_outcome : K.lookup f__law_outcome = some ⟨oc__law_outcome, od__law_outcome, .func (fnOf "_law_outcome" "_law_outcome" (defArgs s__law_outcome) (defBody s__law_outcome) (defScope s__law_outcome) .none kV__law_outcome dc__law_outcome pm__law_outcome an__law_outcome cd__law_outcome ct__law_outcome), sl__law_outcome⟩)
    (e__law_outcome : codeIn K cd__law_outcome "_law_outcome" = true)
    (k__law_outcome : keepIn K (.ref f__law_outcome) = true)
    (a__law_field : nsIn K mainGlobals "_law_field" = some (some (.ref f__law_field)))
    (l__law_field : K.lookup f__law_field = some ⟨oc__law_field, od__law_field, .func (fnOf "_law_field" "_law_field" (defArgs s__law_field) (defBody s__law_field) (defScope s__law_field) .none kV__law_field dc__law_field pm__law_field an__law_field cd__law_field ct__law_field), sl__law_field⟩)
    (e__law_field : codeIn K cd__law_field "_law_field" = true)
    (k__law_field : keepIn K (.ref f__law_field) = true)
    (a__law_tag : nsIn K mainGlobals "_law_tag" = some (some (.ref f__law_tag)))
    (l__law_tag : K.lookup f__law_tag = some ⟨oc__law_tag, od__law_tag, .func (fnOf "_law_tag" "_law_tag" (defArgs s__law_tag) (defBody s__law_tag) (defScope s__law_tag) .none kV__law_tag dc__law_tag pm__law_tag an__law_tag cd__law_tag ct__law_tag), sl__law_tag⟩)
    (e__law_tag : codeIn K cd__law_tag "_law_tag" = true)
    (k__law_tag : keepIn K (.ref f__law_tag) = true)
    (z_len : nsIn K mainGlobals "len" = some none)
    (z_list : nsIn K mainGlobals "list" = some none)
    (z_sorted : nsIn K mainGlobals "sorted" = some none)
    (z_set : nsIn K mainGlobals "set" = some none)
    (z_abs : nsIn K mainGlobals "abs" = some none)
    (z_all : nsIn K mainGlobals "all" = some none)
    (z_range : nsIn K mainGlobals "range" = some none)
    (z_max : nsIn K mainGlobals "max" = some none)
    (z_min : nsIn K mainGlobals "min" = some none)
    (z_zip : nsIn K mainGlobals "zip" = some none)
    (z_tuple : nsIn K mainGlobals "tuple" = some none)
    (z_isinstance : nsIn K mainGlobals "isinstance" = some none)
    (z_bool : nsIn K mainGlobals "bool" = some none)
    (z_int : nsIn K mainGlobals "int" = some none)
    (z_str : nsIn K mainGlobals "str" = some none)
    {t_MAX_DIGITS : Tok}
    (q_MAX_DIGITS : nsIn K mainGlobals "MAX_DIGITS" = some (some (.int 24 t_MAX_DIGITS)))
    {t_MAX_DIGIT : Tok}
    (q_MAX_DIGIT : nsIn K mainGlobals "MAX_DIGIT" = some (some (.int 99 t_MAX_DIGIT)))
    {t_MAX_BASE : Tok}
    (q_MAX_BASE : nsIn K mainGlobals "MAX_BASE" = some (some (.int 10 t_MAX_BASE)))
    {t_MAX_ROW : Tok}
    (q_MAX_ROW : nsIn K mainGlobals "MAX_ROW" = some (some (.int 200 t_MAX_ROW)))
    (ae1 : nsIn K mainGlobals "EarlyError" = some (some (.ref e1)))
    (ae2 : nsIn K mainGlobals "UndefinedName" = some (some (.ref e2)))
    (ae3 : nsIn K mainGlobals "EmptyHistory" = some (some (.ref e3)))
    (xb1 : subIn K (.ref e1) (.type "BaseException") = some true)
    (xi1 : isClsIn K e1 = true)
    (xt1 : typeIn K (.ref e1) = some (.type "type"))
    (xb2 : subIn K (.ref e2) (.type "BaseException") = some true)
    (xi2 : isClsIn K e2 = true)
    (xt2 : typeIn K (.ref e2) = some (.type "type"))
    (xb3 : subIn K (.ref e3) (.type "BaseException") = some true)
    (xi3 : isClsIn K e3 = true)
    (xt3 : typeIn K (.ref e3) = some (.type "type"))
    {cdd : Option Addr} {cvs : Array Value} {csl : Array (Option Value)} {cfl : Str} {cft cgt ctt : Tok} {cgn ctn : Int} {cbf : Bool}
    (lc : K.lookup c = some ⟨.type "code", cdd, .fields cvs, csl⟩)
    (pc : cvs[11]? = some (.ref Pt))
    (pd : cvs.getD 11 .none = .ref Pt)
    (p18 : cvs.getD 18 .none = .str cfl cft)
    (p7 : cvs.getD 7 .none = .int cgn cgt)
    (p9 : cvs.getD 9 .none = .bool cbf)
    (p10 : cvs.getD 10 .none = .int ctn ctt)
    (pne : c ≠ Pt)
    (nP : K.lookup Pt = none)
    {nm_InvalidBase q_InvalidBase : Str} {bs_InvalidBase bm_InvalidBase sb_InvalidBase : List Value} {sn_InvalidBase : List Str} {ab_InvalidBase : Bool} {co_InvalidBase : Option Bool} {dd_InvalidBase : Option Addr} {k0_InvalidBase k1_InvalidBase k2_InvalidBase k3_InvalidBase k5_InvalidBase : Option Value}
    (a_InvalidBase : nsIn K mainGlobals "InvalidBase" = some (some (.ref C_InvalidBase)))
    (oe_InvalidBase : K.lookup C_InvalidBase = some (excClassObj nm_InvalidBase q_InvalidBase C_InvalidBase N_InvalidBase bs_InvalidBase bm_InvalidBase true sn_InvalidBase sb_InvalidBase ab_InvalidBase co_InvalidBase dd_InvalidBase k0_InvalidBase k1_InvalidBase k2_InvalidBase k3_InvalidBase k5_InvalidBase "ValueError.__new__"))
    (vm_InvalidBase : PySem.HandSPX.refsVE bm_InvalidBase = true)
    (sa_InvalidBase : findIn K (.ref C_InvalidBase) "__setattr__" = some (some (.builtin "object.__setattr__")))
    (eC_InvalidBase : subIn K (.ref C_InvalidBase) (.type "BaseException") = some true)
    (tC_InvalidBase : typeIn K (.ref C_InvalidBase) = some (.type "type"))
    (kC_InvalidBase : keepIn K (.ref C_InvalidBase) = true)
    (ii_InvalidBase : findIn K (.ref C_InvalidBase) "__init__" = some (some (.ref i_InvalidBase)))
    (ti_InvalidBase : typeIn K (.ref i_InvalidBase) = some (.type "function"))
    (tg_InvalidBase : findIn K (.ref C_InvalidBase) "tag" = some none)
    (ga_InvalidBase : findIn K (.ref C_InvalidBase) "__getattribute__" = some (some (.builtin "BaseException.__getattribute__")))
    (gg_InvalidBase : findIn K (.ref C_InvalidBase) "__getattr__" = some none)
    (hd_InvalidBase : hasDictIn K C_InvalidBase = true)
    (li_InvalidBase : K.lookup i_InvalidBase = some ⟨oc_InvalidBase, od_InvalidBase, .func (fnOf "__init__" "InvalidBase.__init__" (defArgs (si_InvalidBase)) (defBody (si_InvalidBase)) (defScope (si_InvalidBase)) .none kV_InvalidBase dc_InvalidBase pm_InvalidBase an_InvalidBase cd_InvalidBase ct_InvalidBase), sl_InvalidBase⟩)
    (ci_InvalidBase : codeIn K cd_InvalidBase "InvalidBase.__init__" = true)
    (ki_InvalidBase : keepIn K (.ref i_InvalidBase) = true)
    (em1_InvalidBase : subIn K (.ref C_InvalidBase) (.ref e1) = some true)
    (em2_InvalidBase : subIn K (.ref C_InvalidBase) (.ref e2) = some false)
    (em3_InvalidBase : subIn K (.ref C_InvalidBase) (.ref e3) = some false)
    {nm_InvalidDigits q_InvalidDigits : Str} {bs_InvalidDigits bm_InvalidDigits sb_InvalidDigits : List Value} {sn_InvalidDigits : List Str} {ab_InvalidDigits : Bool} {co_InvalidDigits : Option Bool} {dd_InvalidDigits : Option Addr} {k0_InvalidDigits k1_InvalidDigits k2_InvalidDigits k3_InvalidDigits k5_InvalidDigits : Option Value}
    (a_InvalidDigits : nsIn K mainGlobals "InvalidDigits" = some (some (.ref C_InvalidDigits)))
    (oe_InvalidDigits : K.lookup C_InvalidDigits = some (excClassObj nm_InvalidDigits q_InvalidDigits C_InvalidDigits N_InvalidDigits bs_InvalidDigits bm_InvalidDigits true sn_InvalidDigits sb_InvalidDigits ab_InvalidDigits co_InvalidDigits dd_InvalidDigits k0_InvalidDigits k1_InvalidDigits k2_InvalidDigits k3_InvalidDigits k5_InvalidDigits "ValueError.__new__"))
    (vm_InvalidDigits : PySem.HandSPX.refsVE bm_InvalidDigits = true)
    (sa_InvalidDigits : findIn K (.ref C_InvalidDigits) "__setattr__" = some (some (.builtin "object.__setattr__")))
    (eC_InvalidDigits : subIn K (.ref C_InvalidDigits) (.type "BaseException") = some true)
    (tC_InvalidDigits : typeIn K (.ref C_InvalidDigits) = some (.type "type"))
    (kC_InvalidDigits : keepIn K (.ref C_InvalidDigits) = true)
    (ii_InvalidDigits : findIn K (.ref C_InvalidDigits) "__init__" = some (some (.ref i_InvalidDigits)))
    (ti_InvalidDigits : typeIn K (.ref i_InvalidDigits) = some (.type "function"))
    (tg_InvalidDigits : findIn K (.ref C_InvalidDigits) "tag" = some none)
    (ga_InvalidDigits : findIn K (.ref C_InvalidDigits) "__getattribute__" = some (some (.builtin "BaseException.__getattribute__")))
    (gg_InvalidDigits : findIn K (.ref C_InvalidDigits) "__getattr__" = some none)
    (hd_InvalidDigits : hasDictIn K C_InvalidDigits = true)
    (li_InvalidDigits : K.lookup i_InvalidDigits = some ⟨oc_InvalidDigits, od_InvalidDigits, .func (fnOf "__init__" "InvalidDigits.__init__" (defArgs (si_InvalidDigits)) (defBody (si_InvalidDigits)) (defScope (si_InvalidDigits)) .none kV_InvalidDigits dc_InvalidDigits pm_InvalidDigits an_InvalidDigits cd_InvalidDigits ct_InvalidDigits), sl_InvalidDigits⟩)
    (ci_InvalidDigits : codeIn K cd_InvalidDigits "InvalidDigits.__init__" = true)
    (ki_InvalidDigits : keepIn K (.ref i_InvalidDigits) = true)
    (em1_InvalidDigits : subIn K (.ref C_InvalidDigits) (.ref e1) = some true)
    (em2_InvalidDigits : subIn K (.ref C_InvalidDigits) (.ref e2) = some false)
    (em3_InvalidDigits : subIn K (.ref C_InvalidDigits) (.ref e3) = some false)
    {nm_OutOfRange q_OutOfRange : Str} {bs_OutOfRange bm_OutOfRange sb_OutOfRange : List Value} {sn_OutOfRange : List Str} {ab_OutOfRange : Bool} {co_OutOfRange : Option Bool} {dd_OutOfRange : Option Addr} {k0_OutOfRange k1_OutOfRange k2_OutOfRange k3_OutOfRange k5_OutOfRange : Option Value}
    (a_OutOfRange : nsIn K mainGlobals "OutOfRange" = some (some (.ref C_OutOfRange)))
    (oe_OutOfRange : K.lookup C_OutOfRange = some (excClassObj nm_OutOfRange q_OutOfRange C_OutOfRange N_OutOfRange bs_OutOfRange bm_OutOfRange true sn_OutOfRange sb_OutOfRange ab_OutOfRange co_OutOfRange dd_OutOfRange k0_OutOfRange k1_OutOfRange k2_OutOfRange k3_OutOfRange k5_OutOfRange "ValueError.__new__"))
    (vm_OutOfRange : PySem.HandSPX.refsVE bm_OutOfRange = true)
    (sa_OutOfRange : findIn K (.ref C_OutOfRange) "__setattr__" = some (some (.builtin "object.__setattr__")))
    (eC_OutOfRange : subIn K (.ref C_OutOfRange) (.type "BaseException") = some true)
    (tC_OutOfRange : typeIn K (.ref C_OutOfRange) = some (.type "type"))
    (kC_OutOfRange : keepIn K (.ref C_OutOfRange) = true)
    (ii_OutOfRange : findIn K (.ref C_OutOfRange) "__init__" = some (some (.ref i_OutOfRange)))
    (ti_OutOfRange : typeIn K (.ref i_OutOfRange) = some (.type "function"))
    (tg_OutOfRange : findIn K (.ref C_OutOfRange) "tag" = some none)
    (ga_OutOfRange : findIn K (.ref C_OutOfRange) "__getattribute__" = some (some (.builtin "BaseException.__getattribute__")))
    (gg_OutOfRange : findIn K (.ref C_OutOfRange) "__getattr__" = some none)
    (hd_OutOfRange : hasDictIn K C_OutOfRange = true)
    (li_OutOfRange : K.lookup i_OutOfRange = some ⟨oc_OutOfRange, od_OutOfRange, .func (fnOf "__init__" "OutOfRange.__init__" (defArgs (si_OutOfRange)) (defBody (si_OutOfRange)) (defScope (si_OutOfRange)) .none kV_OutOfRange dc_OutOfRange pm_OutOfRange an_OutOfRange cd_OutOfRange ct_OutOfRange), sl_OutOfRange⟩)
    (ci_OutOfRange : codeIn K cd_OutOfRange "OutOfRange.__init__" = true)
    (ki_OutOfRange : keepIn K (.ref i_OutOfRange) = true)
    (em1_OutOfRange : subIn K (.ref C_OutOfRange) (.ref e1) = some true)
    (em2_OutOfRange : subIn K (.ref C_OutOfRange) (.ref e2) = some false)
    (em3_OutOfRange : subIn K (.ref C_OutOfRange) (.ref e3) = some false)
    (hm : LawGood m_law) : LamX.LawAtS l w K (L2.CX l.prog w) 10 63 "_law_script" mg fa h := by
  have e := hfa.symm.trans (PySem.W.mg_of X G a_law)
  cases e
  let M : Mx := ⟨K, mg, fun s => if s = "InvalidBase" then C_InvalidBase else if s = "InvalidDigits" then C_InvalidDigits else if s = "OutOfRange" then C_OutOfRange else if s = "DigitSet" then C_DigitSet else 0, [(Pt, lamQ "law")]⟩
  have hc_InvalidBase : M.ca "InvalidBase" = C_InvalidBase := show (if ("InvalidBase" : Str) = "InvalidBase" then C_InvalidBase else if ("InvalidBase" : Str) = "InvalidDigits" then C_InvalidDigits else if ("InvalidBase" : Str) = "OutOfRange" then C_OutOfRange else if ("InvalidBase" : Str) = "DigitSet" then C_DigitSet else 0) = C_InvalidBase from (if_pos rfl)
  have F_InvalidBase := fun_mk (st := si_InvalidBase) li_InvalidBase ci_InvalidBase ki_InvalidBase
  have B_InvalidBase := F_InvalidBase.binds (ps := ["self"]) fun _ _ _ _ _ _ us hl => match us, hl with | [_], _ => rfl
  have hc_InvalidDigits : M.ca "InvalidDigits" = C_InvalidDigits := show (if ("InvalidDigits" : Str) = "InvalidBase" then C_InvalidBase else if ("InvalidDigits" : Str) = "InvalidDigits" then C_InvalidDigits else if ("InvalidDigits" : Str) = "OutOfRange" then C_OutOfRange else if ("InvalidDigits" : Str) = "DigitSet" then C_DigitSet else 0) = C_InvalidDigits from ((if_neg (by decide +kernel)).trans (if_pos rfl))
  have F_InvalidDigits := fun_mk (st := si_InvalidDigits) li_InvalidDigits ci_InvalidDigits ki_InvalidDigits
  have B_InvalidDigits := F_InvalidDigits.binds (ps := ["self"]) fun _ _ _ _ _ _ us hl => match us, hl with | [_], _ => rfl
  have hc_OutOfRange : M.ca "OutOfRange" = C_OutOfRange := show (if ("OutOfRange" : Str) = "InvalidBase" then C_InvalidBase else if ("OutOfRange" : Str) = "InvalidDigits" then C_InvalidDigits else if ("OutOfRange" : Str) = "OutOfRange" then C_OutOfRange else if ("OutOfRange" : Str) = "DigitSet" then C_DigitSet else 0) = C_OutOfRange from ((if_neg (by decide +kernel)).trans ((if_neg (by decide +kernel)).trans (if_pos rfl)))
  have F_OutOfRange := fun_mk (st := si_OutOfRange) li_OutOfRange ci_OutOfRange ki_OutOfRange
  have B_OutOfRange := F_OutOfRange.binds (ps := ["self"]) fun _ _ _ _ _ _ us hl => match us, hl with | [_], _ => rfl
  have hc_DigitSet : M.ca "DigitSet" = C_DigitSet := show (if ("DigitSet" : Str) = "InvalidBase" then C_InvalidBase else if ("DigitSet" : Str) = "InvalidDigits" then C_InvalidDigits else if ("DigitSet" : Str) = "OutOfRange" then C_OutOfRange else if ("DigitSet" : Str) = "DigitSet" then C_DigitSet else 0) = C_DigitSet from ((if_neg (by decide +kernel)).trans ((if_neg (by decide +kernel)).trans ((if_neg (by decide +kernel)).trans (if_pos rfl))))
  have cl_DigitSet : Cls K C_DigitSet := ⟨pg_DigitSet, hd_DigitSet, po_DigitSet, sa_DigitSet⟩
  let T : Tx M w := ⟨PySem.W.mg_none_of X G z_len,
    PySem.W.mg_none_of X G z_list,
    PySem.W.mg_none_of X G z_sorted,
    PySem.W.mg_none_of X G z_set,
    PySem.W.mg_none_of X G z_abs,
    PySem.W.mg_none_of X G z_all,
    PySem.W.mg_none_of X G z_range,
    PySem.W.mg_none_of X G z_max,
    PySem.W.mg_none_of X G z_min,
    PySem.W.mg_none_of X G z_zip,
    PySem.W.mg_none_of X G z_tuple,
    PySem.W.mg_none_of X G z_isinstance,
    PySem.W.mg_none_of X G z_bool,
    PySem.W.mg_none_of X G z_int,
    PySem.W.mg_none_of X G z_str,
    KCon.int (PySem.W.mg_of X G q_MAX_DIGITS),
    KCon.int (PySem.W.mg_of X G q_MAX_DIGIT),
    KCon.int (PySem.W.mg_of X G q_MAX_BASE),
    KCon.int (PySem.W.mg_of X G q_MAX_ROW),
    excAt C_InvalidBase hc_InvalidBase i_InvalidBase _ (PySem.W.mg_of X G a_InvalidBase) ⟨⟨nm_InvalidBase, q_InvalidBase, N_InvalidBase, bs_InvalidBase, bm_InvalidBase, sn_InvalidBase, sb_InvalidBase, ab_InvalidBase, co_InvalidBase, dd_InvalidBase, k0_InvalidBase, k1_InvalidBase, k2_InvalidBase, k3_InvalidBase, k5_InvalidBase, oe_InvalidBase, vm_InvalidBase⟩, sa_InvalidBase, eC_InvalidBase, tC_InvalidBase, kC_InvalidBase⟩ ii_InvalidBase ti_InvalidBase tg_InvalidBase (fun ws f hf => by rw [List.mem_singleton.mp hf]; exact tg_InvalidBase) ⟨ga_InvalidBase, gg_InvalidBase, eC_InvalidBase, hd_InvalidBase⟩ B_InvalidBase (fun P w base => init1 F_InvalidBase sci_InvalidBase rfl (by unfold Vis; decide +kernel)),
    excAt C_InvalidDigits hc_InvalidDigits i_InvalidDigits _ (PySem.W.mg_of X G a_InvalidDigits) ⟨⟨nm_InvalidDigits, q_InvalidDigits, N_InvalidDigits, bs_InvalidDigits, bm_InvalidDigits, sn_InvalidDigits, sb_InvalidDigits, ab_InvalidDigits, co_InvalidDigits, dd_InvalidDigits, k0_InvalidDigits, k1_InvalidDigits, k2_InvalidDigits, k3_InvalidDigits, k5_InvalidDigits, oe_InvalidDigits, vm_InvalidDigits⟩, sa_InvalidDigits, eC_InvalidDigits, tC_InvalidDigits, kC_InvalidDigits⟩ ii_InvalidDigits ti_InvalidDigits tg_InvalidDigits (fun ws f hf => by rw [List.mem_singleton.mp hf]; exact tg_InvalidDigits) ⟨ga_InvalidDigits, gg_InvalidDigits, eC_InvalidDigits, hd_InvalidDigits⟩ B_InvalidDigits (fun P w base => init1 F_InvalidDigits sci_InvalidDigits rfl (by unfold Vis; decide +kernel)),
    excAt C_OutOfRange hc_OutOfRange i_OutOfRange _ (PySem.W.mg_of X G a_OutOfRange) ⟨⟨nm_OutOfRange, q_OutOfRange, N_OutOfRange, bs_OutOfRange, bm_OutOfRange, sn_OutOfRange, sb_OutOfRange, ab_OutOfRange, co_OutOfRange, dd_OutOfRange, k0_OutOfRange, k1_OutOfRange, k2_OutOfRange, k3_OutOfRange, k5_OutOfRange, oe_OutOfRange, vm_OutOfRange⟩, sa_OutOfRange, eC_OutOfRange, tC_OutOfRange, kC_OutOfRange⟩ ii_OutOfRange ti_OutOfRange tg_OutOfRange (fun ws f hf => by rw [List.mem_singleton.mp hf]; exact tg_OutOfRange) ⟨ga_OutOfRange, gg_OutOfRange, eC_OutOfRange, hd_OutOfRange⟩ B_OutOfRange (fun P w base => init1 F_OutOfRange sci_OutOfRange rfl (by unfold Vis; decide +kernel)),
    clsAt (C := C_DigitSet) (PySem.W.mg_of X G a_DigitSet) hc_DigitSet cl_DigitSet (by intro f hf; simp only [List.mem_cons, List.not_mem_nil, or_false] at hf; rcases hf with rfl | rfl <;> first | exact no0_DigitSet | exact no1_DigitSet)⟩
  have F__law_begin := fun_mk (st := s__law_begin) l__law_begin e__law_begin k__law_begin
  have B__law_begin := F__law_begin.binds (ps := ["_law_script"]) fun _ _ _ _ _ _ us hl => match us, hl with | [_], _ => rfl
  have F__law_draw := fun_mk (st := s__law_draw) l__law_draw e__law_draw k__law_draw
  have B__law_draw := F__law_draw.binds (ps := ["_law_rng", "_law_many"]) fun _ _ _ _ _ _ us hl => match us, hl with | [_, _], _ => rfl
  have F__law_pick := fun_mk (st := s__law_pick) l__law_pick e__law_pick k__law_pick
  have B__law_pick := F__law_pick.binds (ps := ["_law_rng", "_law_items"]) fun _ _ _ _ _ _ us hl => match us, hl with | [_, _], _ => rfl
  have F__law_are_digits := fun_mk (st := s__law_are_digits) l__law_are_digits e__law_are_digits k__law_are_digits
  have B__law_are_digits := F__law_are_digits.binds (ps := ["_law_base", "_law_digits_here"]) fun _ _ _ _ _ _ us hl => match us, hl with | [_, _], _ => rfl
  have F__law_digits := fun_mk (st := s__law_digits) l__law_digits e__law_digits k__law_digits
  have B__law_digits := F__law_digits.binds (ps := ["_law_rng", "_law_base", "_law_most"]) fun _ _ _ _ _ _ us hl => match us, hl with | [_, _, _], _ => rfl
  have F__law_lowest := fun_mk (st := s__law_lowest) l__law_lowest e__law_lowest k__law_lowest
  have B__law_lowest := F__law_lowest.binds (ps := ["_law_above", "_law_below"]) fun _ _ _ _ _ _ us hl => match us, hl with | [_, _], _ => rfl
  have F__law_ends := fun_mk (st := s__law_ends) l__law_ends e__law_ends k__law_ends
  have B__law_ends := F__law_ends.binds (ps := ["_law_base", "_law_digits_here"]) fun _ _ _ _ _ _ us hl => match us, hl with | [_, _], _ => rfl
  have F_are_digits := fun_mk (st := s_are_digits) l_are_digits e_are_digits k_are_digits
  have B_are_digits := F_are_digits.binds (ps := ["base", "digits"]) fun _ _ _ _ _ _ us hl => match us, hl with | [_, _], _ => rfl
  have F_DigitSet____init__ := fun_mk (st := s_DigitSet____init__) l_DigitSet____init__ e_DigitSet____init__ k_DigitSet____init__
  have B_DigitSet____init__ := F_DigitSet____init__.binds (ps := ["self", "base", "digits"]) fun _ _ _ _ _ _ us hl => match us, hl with | [_, _, _], _ => rfl
  have F__law_set := fun_mk (st := s__law_set) l__law_set e__law_set k__law_set
  have B__law_set := F__law_set.binds (ps := ["_law_base", "_law_digits_here"]) fun _ _ _ _ _ _ us hl => match us, hl with | [_, _], _ => rfl
  have F__law_plus := fun_mk (st := s__law_plus) l__law_plus e__law_plus k__law_plus
  have B__law_plus := F__law_plus.binds (ps := ["_law_one", "_law_other"]) fun _ _ _ _ _ _ us hl => match us, hl with | [_, _], _ => rfl
  have F__law_times := fun_mk (st := s__law_times) l__law_times e__law_times k__law_times
  have B__law_times := F__law_times.binds (ps := ["_law_one", "_law_other"]) fun _ _ _ _ _ _ us hl => match us, hl with | [_, _], _ => rfl
  have F__law_minus := fun_mk (st := s__law_minus) l__law_minus e__law_minus k__law_minus
  have B__law_minus := F__law_minus.binds (ps := ["_law_one", "_law_other"]) fun _ _ _ _ _ _ us hl => match us, hl with | [_, _], _ => rfl
  have F__law_in_interval := fun_mk (st := s__law_in_interval) l__law_in_interval e__law_in_interval k__law_in_interval
  have B__law_in_interval := F__law_in_interval.binds (ps := ["_law_rng", "_law_ends_here", "_law_parts"]) fun _ _ _ _ _ _ us hl => match us, hl with | [_, _, _], _ => rfl
  have F__law_less := fun_mk (st := s__law_less) l__law_less e__law_less k__law_less
  have B__law_less := F__law_less.binds (ps := ["_law_one", "_law_other"]) fun _ _ _ _ _ _ us hl => match us, hl with | [_, _], _ => rfl
  have F__law_inside := fun_mk (st := s__law_inside) l__law_inside e__law_inside k__law_inside
  have B__law_inside := F__law_inside.binds (ps := ["_law_low", "_law_number", "_law_high"]) fun _ _ _ _ _ _ us hl => match us, hl with | [_, _, _], _ => rfl
  have F__law_same := fun_mk (st := s__law_same) l__law_same e__law_same k__law_same
  have B__law_same := F__law_same.binds (ps := ["_law_found", "_law_due"]) fun _ _ _ _ _ _ us hl => match us, hl with | [_, _], _ => rfl
  have F_is_less := fun_mk (st := s_is_less) l_is_less e_is_less k_is_less
  have B_is_less := F_is_less.binds (ps := ["one", "other"]) fun _ _ _ _ _ _ us hl => match us, hl with | [_, _], _ => rfl
  have F_is_between := fun_mk (st := s_is_between) l_is_between e_is_between k_is_between
  have B_is_between := F_is_between.binds (ps := ["low", "value", "high"]) fun _ _ _ _ _ _ us hl => match us, hl with | [_, _, _], _ => rfl
  have F_common_divisor := fun_mk (st := s_common_divisor) l_common_divisor e_common_divisor k_common_divisor
  have B_common_divisor := F_common_divisor.binds (ps := ["one", "other"]) fun _ _ _ _ _ _ us hl => match us, hl with | [_, _], _ => rfl
  have F_fraction : FunD K "fraction" "fraction" (defArgs s_fraction) (defBody s_fraction) (defScope s_fraction) [V.int 1] [] f_fraction (PySem.W.fnOf "fraction" "fraction" (defArgs s_fraction) (defBody s_fraction) (defScope s_fraction) (.ref T_fraction) kV_fraction dc_fraction pm_fraction an_fraction cd_fraction ct_fraction) := ⟨⟨_, _, _, _, _, _, _, _, _, _, rfl, l_fraction, e_fraction, .inr ⟨by simp, T_fraction, _, ti_fraction.toList, tn_fraction, rfl, dt_fraction, by simp, dv_fraction⟩, .inl rfl⟩, k_fraction⟩
  have B_fraction : Binds K (PySem.W.fnOf "fraction" "fraction" (defArgs s_fraction) (defBody s_fraction) (defScope s_fraction) (.ref T_fraction) kV_fraction dc_fraction pm_fraction an_fraction cd_fraction ct_fraction) ["numerator", "denominator"] [] := by
    obtain ⟨ds, hd, hb⟩ := F_fraction.binds1 (ps := ["numerator", "denominator"]) 2 1 (by simp) rfl fun _ _ _ _ _ _ _ us its hl hi => match us, its, hl, hi with | [_, _], [_], _, _ => ⟨_, rfl, rfl⟩
    cases hd
    exact hb
  have BD_fraction : ∃ dus, Vals [V.int 1] dus ∧ Binds K (PySem.W.fnOf "fraction" "fraction" (defArgs s_fraction) (defBody s_fraction) (defScope s_fraction) (.ref T_fraction) kV_fraction dc_fraction pm_fraction an_fraction cd_fraction ct_fraction) ["numerator", "denominator"] dus := F_fraction.binds1 (ps := ["numerator", "denominator"]) 1 0 (by simp) rfl fun _ _ _ _ _ _ _ us its hl hi => match us, its, hl, hi with | [_], [_], _, _ => ⟨_, rfl, rfl⟩
  have F_DigitSet__high := fun_mk (st := s_DigitSet__high) l_DigitSet__high e_DigitSet__high k_DigitSet__high
  have B_DigitSet__high := F_DigitSet__high.binds (ps := ["self"]) fun _ _ _ _ _ _ us hl => match us, hl with | [_], _ => rfl
  have F_DigitSet__low := fun_mk (st := s_DigitSet__low) l_DigitSet__low e_DigitSet__low k_DigitSet__low
  have B_DigitSet__low := F_DigitSet__low.binds (ps := ["self"]) fun _ _ _ _ _ _ us hl => match us, hl with | [_], _ => rfl
  have F_multiply := fun_mk (st := s_multiply) l_multiply e_multiply k_multiply
  have B_multiply := F_multiply.binds (ps := ["one", "other"]) fun _ _ _ _ _ _ us hl => match us, hl with | [_, _], _ => rfl
  have F_subtract := fun_mk (st := s_subtract) l_subtract e_subtract k_subtract
  have B_subtract := F_subtract.binds (ps := ["one", "other"]) fun _ _ _ _ _ _ us hl => match us, hl with | [_, _], _ => rfl
  have F_DigitSet__first_digit := fun_mk (st := s_DigitSet__first_digit) l_DigitSet__first_digit e_DigitSet__first_digit k_DigitSet__first_digit
  have B_DigitSet__first_digit := F_DigitSet__first_digit.binds (ps := ["self", "number"]) fun _ _ _ _ _ _ us hl => match us, hl with | [_, _], _ => rfl
  have F_DigitSet__row_of := fun_mk (st := s_DigitSet__row_of) l_DigitSet__row_of e_DigitSet__row_of k_DigitSet__row_of
  have B_DigitSet__row_of := F_DigitSet__row_of.binds (ps := ["self", "number", "count"]) fun _ _ _ _ _ _ us hl => match us, hl with | [_, _, _], _ => rfl
  have F_law := fun_mk (st := s_law) l_law e_law k_law
  have B_law := F_law.binds (ps := ["_law_script"]) fun _ _ _ _ _ _ us hl => match us, hl with | [_], _ => rfl
  have F__law_outcome := fun_mk (st := s__law_outcome) l__law_outcome e__law_outcome k__law_outcome
  have B__law_outcome := F__law_outcome.binds (ps := ["_law_ask"]) fun _ _ _ _ _ _ us hl => match us, hl with | [_], _ => rfl
  have F__law_field := fun_mk (st := s__law_field) l__law_field e__law_field k__law_field
  have B__law_field := F__law_field.binds (ps := ["_law_e"]) fun _ _ _ _ _ _ us hl => match us, hl with | [_], _ => rfl
  have F__law_tag := fun_mk (st := s__law_tag) l__law_tag e__law_tag k__law_tag
  have B__law_tag := F__law_tag.binds (ps := ["_law_ask"]) fun _ _ _ _ _ _ us hl => match us, hl with | [_], _ => rfl
  let dF : DefAt M "_law_field" s__law_field ["_law_e"] := ⟨f__law_field, _, PySem.W.mg_of X G a__law_field, k__law_field, B__law_field, F__law_field⟩
  have cau : ∀ c, okE c = true → exmAny M.K (.ref (M.ca c)) [.ref e1, .ref e2, .ref e3] = some true := by
    intro c hc
    by_cases h_InvalidBase : c = "InvalidBase"
    · subst h_InvalidBase
      rw [hc_InvalidBase]
      exact exm3 (exmOne_of xb1 xi1 xt1 em1_InvalidBase) (exmOne_of xb2 xi2 xt2 em2_InvalidBase) (exmOne_of xb3 xi3 xt3 em3_InvalidBase) rfl
    by_cases h_InvalidDigits : c = "InvalidDigits"
    · subst h_InvalidDigits
      rw [hc_InvalidDigits]
      exact exm3 (exmOne_of xb1 xi1 xt1 em1_InvalidDigits) (exmOne_of xb2 xi2 xt2 em2_InvalidDigits) (exmOne_of xb3 xi3 xt3 em3_InvalidDigits) rfl
    by_cases h_OutOfRange : c = "OutOfRange"
    · subst h_OutOfRange
      rw [hc_OutOfRange]
      exact exm3 (exmOne_of xb1 xi1 xt1 em1_OutOfRange) (exmOne_of xb2 xi2 xt2 em2_OutOfRange) (exmOne_of xb3 xi3 xt3 em3_OutOfRange) rfl
    exact absurd hc (by unfold okE; simp [h_InvalidBase, h_InvalidDigits, h_OutOfRange])
  let A : Ax M c Pt := ⟨⟨f__law_begin, _, PySem.W.mg_of X G a__law_begin, k__law_begin, B__law_begin, F__law_begin⟩,
    ⟨f__law_draw, _, PySem.W.mg_of X G a__law_draw, k__law_draw, B__law_draw, F__law_draw⟩,
    ⟨f__law_pick, _, PySem.W.mg_of X G a__law_pick, k__law_pick, B__law_pick, F__law_pick⟩,
    ⟨f__law_are_digits, _, PySem.W.mg_of X G a__law_are_digits, k__law_are_digits, B__law_are_digits, F__law_are_digits⟩,
    ⟨f__law_digits, _, PySem.W.mg_of X G a__law_digits, k__law_digits, B__law_digits, F__law_digits⟩,
    ⟨f__law_lowest, _, PySem.W.mg_of X G a__law_lowest, k__law_lowest, B__law_lowest, F__law_lowest⟩,
    ⟨f__law_ends, _, PySem.W.mg_of X G a__law_ends, k__law_ends, B__law_ends, F__law_ends⟩,
    ⟨f_are_digits, _, PySem.W.mg_of X G a_are_digits, k_are_digits, B_are_digits, F_are_digits⟩,
    idefAt (C := C_DigitSet) (PySem.W.mg_of X G a_DigitSet) hc_DigitSet cl_DigitSet ⟨mk_DigitSet, a_DigitSet____init__, j_DigitSet____init__, kC_DigitSet⟩ B_DigitSet____init__ F_DigitSet____init__,
    ⟨f__law_set, _, PySem.W.mg_of X G a__law_set, k__law_set, B__law_set, F__law_set⟩,
    ⟨f__law_plus, _, PySem.W.mg_of X G a__law_plus, k__law_plus, B__law_plus, F__law_plus⟩,
    ⟨f__law_times, _, PySem.W.mg_of X G a__law_times, k__law_times, B__law_times, F__law_times⟩,
    ⟨f__law_minus, _, PySem.W.mg_of X G a__law_minus, k__law_minus, B__law_minus, F__law_minus⟩,
    ⟨f__law_in_interval, _, PySem.W.mg_of X G a__law_in_interval, k__law_in_interval, B__law_in_interval, F__law_in_interval⟩,
    ⟨f__law_less, _, PySem.W.mg_of X G a__law_less, k__law_less, B__law_less, F__law_less⟩,
    ⟨f__law_inside, _, PySem.W.mg_of X G a__law_inside, k__law_inside, B__law_inside, F__law_inside⟩,
    ⟨f__law_same, _, PySem.W.mg_of X G a__law_same, k__law_same, B__law_same, F__law_same⟩,
    ⟨f_is_less, _, PySem.W.mg_of X G a_is_less, k_is_less, B_is_less, F_is_less⟩,
    ⟨f_is_between, _, PySem.W.mg_of X G a_is_between, k_is_between, B_is_between, F_is_between⟩,
    ⟨f_common_divisor, _, PySem.W.mg_of X G a_common_divisor, k_common_divisor, B_common_divisor, F_common_divisor⟩,
    ⟨f_fraction, _, PySem.W.mg_of X G a_fraction, k_fraction, B_fraction, BD_fraction, F_fraction⟩,
    mdefAt (C := C_DigitSet) hc_DigitSet cl_DigitSet ⟨a_DigitSet__high, j_DigitSet__high, k_DigitSet__high⟩ B_DigitSet__high F_DigitSet__high,
    mdefAt (C := C_DigitSet) hc_DigitSet cl_DigitSet ⟨a_DigitSet__low, j_DigitSet__low, k_DigitSet__low⟩ B_DigitSet__low F_DigitSet__low,
    ⟨f_multiply, _, PySem.W.mg_of X G a_multiply, k_multiply, B_multiply, F_multiply⟩,
    ⟨f_subtract, _, PySem.W.mg_of X G a_subtract, k_subtract, B_subtract, F_subtract⟩,
    mdefAt (C := C_DigitSet) hc_DigitSet cl_DigitSet ⟨a_DigitSet__first_digit, j_DigitSet__first_digit, k_DigitSet__first_digit⟩ B_DigitSet__first_digit F_DigitSet__first_digit,
    mdefAt (C := C_DigitSet) hc_DigitSet cl_DigitSet ⟨a_DigitSet__row_of, j_DigitSet__row_of, k_DigitSet__row_of⟩ B_DigitSet__row_of F_DigitSet__row_of,
    ⟨⟨fa, _, PySem.W.mg_of X G a_law, k_law, B_law, F_law⟩, ⟨_, _, _, _, _, _, _, _, rfl, l_law, e_law⟩, List.mem_cons_self, fun p hp _ => by rw [List.mem_singleton.mp hp]⟩,
    ⟨⟨f__law_outcome, _, PySem.W.mg_of X G a__law_outcome, k__law_outcome, B__law_outcome, F__law_outcome⟩, dF, e1, e2, e3, PySem.W.mg_of X G ae1, PySem.W.mg_of X G ae2, PySem.W.mg_of X G ae3, cau, okq__law_field dF⟩,
    ⟨f__law_tag, _, PySem.W.mg_of X G a__law_tag, k__law_tag, B__law_tag, F__law_tag⟩⟩
  refine lawAt (c := c) (Pt := Pt) (fd := PySem.W.fnOf "law" "law" (defArgs s_law) (defBody s_law) (defScope s_law) .none kV_law dc_law pm_law an_law (.ref c) ct_law) (own c Pt _ _ _ _ _ _ l_law rfl rfl lc pc) nP ⟨_, cvs, cfl, cft, cgn, cgt, cbf, ctn, ctt, X _ _ lc, rfl, rfl, pc, pd, p18, p7, p9, p10, pne⟩ (fun s v => .of_eq rfl) fun base _ _ tb => ?_
  exact fn_law (M := M) hm (all_law (P := l.prog) (w := w) (base := base) T A tb)
end
end Kx
open PySem PySem.W PyProof.Rows
set_option maxRecDepth 100000 in
set_option maxHeartbeats 0 in
theorem PySem.Challenge.cw_earlywrite_k05_rows_of_numbers_holds : PySem.Challenge.rw_earlywrite_k05_rows_of_numbers.Holds := by
  w_on; o_law; k_head; (case hw => w_witness2)
  k_fill
  refine DL.walkL (l := PySem.Challenge.rw_earlywrite_k05_rows_of_numbers) (k := 10) ⟨rfl, by decide, by decide⟩ rfl rfl (by decide +kernel) (fun w h Y => PySem.W.km_in_of Y) ?F
  case F =>
    intro w mg fa h KX G hmg own
    refine' Kx.all_mk KX G hmg own ?a_DigitSet ?pg_DigitSet ?hd_DigitSet ?po_DigitSet ?sa_DigitSet ?mk_DigitSet ?kC_DigitSet ?no0_DigitSet ?no1_DigitSet ?a__law_begin ?l__law_begin ?e__law_begin ?k__law_begin ?a__law_draw ?l__law_draw ?e__law_draw ?k__law_draw ?a__law_pick ?l__law_pick ?e__law_pick ?k__law_pick ?a__law_are_digits ?l__law_are_digits ?e__law_are_digits ?k__law_are_digits ?a__law_digits ?l__law_digits ?e__law_digits ?k__law_digits ?a__law_lowest ?l__law_lowest ?e__law_lowest ?k__law_lowest ?a__law_ends ?l__law_ends ?e__law_ends ?k__law_ends ?a_are_digits ?l_are_digits ?e_are_digits ?k_are_digits ?a_DigitSet____init__ ?j_DigitSet____init__ ?l_DigitSet____init__ ?e_DigitSet____init__ ?k_DigitSet____init__ ?a__law_set ?l__law_set ?e__law_set ?k__law_set ?a__law_plus ?l__law_plus ?e__law_plus ?k__law_plus ?a__law_times ?l__law_times ?e__law_times ?k__law_times ?a__law_minus ?l__law_minus ?e__law_minus ?k__law_minus ?a__law_in_interval ?l__law_in_interval ?e__law_in_interval ?k__law_in_interval ?a__law_less ?l__law_less ?e__law_less ?k__law_less ?a__law_inside ?l__law_inside ?e__law_inside ?k__law_inside ?a__law_same ?l__law_same ?e__law_same ?k__law_same ?a_is_less ?l_is_less ?e_is_less ?k_is_less ?a_is_between ?l_is_between ?e_is_between ?k_is_between ?a_common_divisor ?l_common_divisor ?e_common_divisor ?k_common_divisor ?a_fraction ?l_fraction ?e_fraction ?k_fraction ?dt_fraction ?dv_fraction ?a_DigitSet__high ?j_DigitSet__high ?l_DigitSet__high ?e_DigitSet__high ?k_DigitSet__high ?a_DigitSet__low ?j_DigitSet__low ?l_DigitSet__low ?e_DigitSet__low ?k_DigitSet__low ?a_multiply ?l_multiply ?e_multiply ?k_multiply ?a_subtract ?l_subtract ?e_subtract ?k_subtract ?a_DigitSet__first_digit ?j_DigitSet__first_digit ?l_DigitSet__first_digit ?e_DigitSet__first_digit ?k_DigitSet__first_digit ?a_DigitSet__row_of ?j_DigitSet__row_of ?l_DigitSet__row_of ?e_DigitSet__row_of ?k_DigitSet__row_of ?a_law ?l_law ?e_law ?k_law ?a__law_outcome ?l__law_outcome ?e__law_outcome ?k__law_outcome ?a__law_field ?l__law_field ?e__law_field ?k__law_field ?a__law_tag ?l__law_tag ?e__law_tag ?k__law_tag ?z_len ?z_list ?z_sorted ?z_set ?z_abs ?z_all ?z_range ?z_max ?z_min ?z_zip ?z_tuple ?z_isinstance ?z_bool ?z_int ?z_str ?q_MAX_DIGITS ?q_MAX_DIGIT ?q_MAX_BASE ?q_MAX_ROW ?ae1 ?ae2 ?ae3 ?xb1 ?xi1 ?xt1 ?xb2 ?xi2 ?xt2 ?xb3 ?xi3 ?xt3 ?lc ?pc ?pd ?p18 ?p7 ?p9 ?p10 ?pne ?nP ?a_InvalidBase ?oe_InvalidBase ?vm_InvalidBase ?sa_InvalidBase ?eC_InvalidBase ?tC_InvalidBase ?kC_InvalidBase ?ii_InvalidBase ?ti_InvalidBase ?tg_InvalidBase ?ga_InvalidBase ?gg_InvalidBase ?hd_InvalidBase ?li_InvalidBase ?ci_InvalidBase ?ki_InvalidBase ?em1_InvalidBase ?em2_InvalidBase ?em3_InvalidBase ?a_InvalidDigits ?oe_InvalidDigits ?vm_InvalidDigits ?sa_InvalidDigits ?eC_InvalidDigits ?tC_InvalidDigits ?kC_InvalidDigits ?ii_InvalidDigits ?ti_InvalidDigits ?tg_InvalidDigits ?ga_InvalidDigits ?gg_InvalidDigits ?hd_InvalidDigits ?li_InvalidDigits ?ci_InvalidDigits ?ki_InvalidDigits ?em1_InvalidDigits ?em2_InvalidDigits ?em3_InvalidDigits ?a_OutOfRange ?oe_OutOfRange ?vm_OutOfRange ?sa_OutOfRange ?eC_OutOfRange ?tC_OutOfRange ?kC_OutOfRange ?ii_OutOfRange ?ti_OutOfRange ?tg_OutOfRange ?ga_OutOfRange ?gg_OutOfRange ?hd_OutOfRange ?li_OutOfRange ?ci_OutOfRange ?ki_OutOfRange ?em1_OutOfRange ?em2_OutOfRange ?em3_OutOfRange Kx.law_good
    (case a_DigitSet => k_is)
    (case pg_DigitSet => k_is)
    (case hd_DigitSet => k_is)
    (case po_DigitSet => k_is)
    (case sa_DigitSet => k_is)
    (case mk_DigitSet => k_is)
    (case kC_DigitSet => k_is)
    (case no0_DigitSet => k_is)
    (case no1_DigitSet => k_is)
    (case a__law_begin => k_is)
    (case l__law_begin => k_is)
    (case e__law_begin => k_is)
    (case k__law_begin => k_is)
    (case a__law_draw => k_is)
    (case l__law_draw => k_is)
    (case e__law_draw => k_is)
    (case k__law_draw => k_is)
    (case a__law_pick => k_is)
    (case l__law_pick => k_is)
    (case e__law_pick => k_is)
    (case k__law_pick => k_is)
    (case a__law_are_digits => k_is)
    (case l__law_are_digits => k_is)
    (case e__law_are_digits => k_is)
    (case k__law_are_digits => k_is)
    (case a__law_digits => k_is)
    (case l__law_digits => k_is)
    (case e__law_digits => k_is)
    (case k__law_digits => k_is)
    (case a__law_lowest => k_is)
    (case l__law_lowest => k_is)
    (case e__law_lowest => k_is)
    (case k__law_lowest => k_is)
    (case a__law_ends => k_is)
    (case l__law_ends => k_is)
    (case e__law_ends => k_is)
    (case k__law_ends => k_is)
    (case a_are_digits => k_is)
    (case l_are_digits => k_is)
    (case e_are_digits => k_is)
    (case k_are_digits => k_is)
    (case a_DigitSet____init__ => k_is)
    (case j_DigitSet____init__ => k_is)
    (case l_DigitSet____init__ => k_is)
    (case e_DigitSet____init__ => k_is)
    (case k_DigitSet____init__ => k_is)
    (case a__law_set => k_is)
    (case l__law_set => k_is)
    (case e__law_set => k_is)
    (case k__law_set => k_is)
    (case a__law_plus => k_is)
    (case l__law_plus => k_is)
    (case e__law_plus => k_is)
    (case k__law_plus => k_is)
    (case a__law_times => k_is)
    (case l__law_times => k_is)
    (case e__law_times => k_is)
    (case k__law_times => k_is)
    (case a__law_minus => k_is)
    (case l__law_minus => k_is)
    (case e__law_minus => k_is)
    (case k__law_minus => k_is)
    (case a__law_in_interval => k_is)
    (case l__law_in_interval => k_is)
    (case e__law_in_interval => k_is)
    (case k__law_in_interval => k_is)
    (case a__law_less => k_is)
    (case l__law_less => k_is)
    (case e__law_less => k_is)
    (case k__law_less => k_is)
    (case a__law_inside => k_is)
    (case l__law_inside => k_is)
    (case e__law_inside => k_is)
    (case k__law_inside => k_is)
    (case a__law_same => k_is)
    (case l__law_same => k_is)
    (case e__law_same => k_is)
    (case k__law_same => k_is)
    (case a_is_less => k_is)
    (case l_is_less => k_is)
    (case e_is_less => k_is)
    (case k_is_less => k_is)
    (case a_is_between => k_is)
    (case l_is_between => k_is)
    (case e_is_between => k_is)
    (case k_is_between => k_is)
    (case a_common_divisor => k_is)
    (case l_common_divisor => k_is)
    (case e_common_divisor => k_is)
    (case k_common_divisor => k_is)
    (case a_fraction => k_is)
    (case l_fraction => k_is)
    (case e_fraction => k_is)
    (case k_fraction => k_is)
    (case dt_fraction => k_is)
    (case dv_fraction => exact (.cons ⟨_, rfl⟩ .nil))
    (case a_DigitSet__high => k_is)
    (case j_DigitSet__high => k_is)
    (case l_DigitSet__high => k_is)
    (case e_DigitSet__high => k_is)
    (case k_DigitSet__high => k_is)
    (case a_DigitSet__low => k_is)
    (case j_DigitSet__low => k_is)
    (case l_DigitSet__low => k_is)
    (case e_DigitSet__low => k_is)
    (case k_DigitSet__low => k_is)
    (case a_multiply => k_is)
    (case l_multiply => k_is)
    (case e_multiply => k_is)
    (case k_multiply => k_is)
    (case a_subtract => k_is)
    (case l_subtract => k_is)
    (case e_subtract => k_is)
    (case k_subtract => k_is)
    (case a_DigitSet__first_digit => k_is)
    (case j_DigitSet__first_digit => k_is)
    (case l_DigitSet__first_digit => k_is)
    (case e_DigitSet__first_digit => k_is)
    (case k_DigitSet__first_digit => k_is)
    (case a_DigitSet__row_of => k_is)
    (case j_DigitSet__row_of => k_is)
    (case l_DigitSet__row_of => k_is)
    (case e_DigitSet__row_of => k_is)
    (case k_DigitSet__row_of => k_is)
    (case a_law => k_is)
    (case l_law => k_is)
    (case e_law => k_is)
    (case k_law => k_is)
    (case a__law_outcome => k_is)
    (case l__law_outcome => k_is)
    (case e__law_outcome => k_is)
    (case k__law_outcome => k_is)
    (case a__law_field => k_is)
    (case l__law_field => k_is)
    (case e__law_field => k_is)
    (case k__law_field => k_is)
    (case a__law_tag => k_is)
    (case l__law_tag => k_is)
    (case e__law_tag => k_is)
    (case k__law_tag => k_is)
    (case z_len => k_is)
    (case z_list => k_is)
    (case z_sorted => k_is)
    (case z_set => k_is)
    (case z_abs => k_is)
    (case z_all => k_is)
    (case z_range => k_is)
    (case z_max => k_is)
    (case z_min => k_is)
    (case z_zip => k_is)
    (case z_tuple => k_is)
    (case z_isinstance => k_is)
    (case z_bool => k_is)
    (case z_int => k_is)
    (case z_str => k_is)
    (case q_MAX_DIGITS => k_is)
    (case q_MAX_DIGIT => k_is)
    (case q_MAX_BASE => k_is)
    (case q_MAX_ROW => k_is)
    (case ae1 => k_is)
    (case ae2 => k_is)
    (case ae3 => k_is)
    (case xb1 => k_is)
    (case xi1 => k_is)
    (case xt1 => k_is)
    (case xb2 => k_is)
    (case xi2 => k_is)
    (case xt2 => k_is)
    (case xb3 => k_is)
    (case xi3 => k_is)
    (case xt3 => k_is)
    (case lc => k_is)
    (case pc => rfl)
    (case pd => rfl)
    (case p18 => rfl)
    (case p7 => rfl)
    (case p9 => rfl)
    (case p10 => rfl)
    (case pne => decide)
    (case nP => first | rfl | k_is | decide +kernel)
    (case a_InvalidBase => k_is)
    (case oe_InvalidBase => k_is)
    (case vm_InvalidBase => decide +kernel)
    (case sa_InvalidBase => k_is)
    (case eC_InvalidBase => k_is)
    (case tC_InvalidBase => k_is)
    (case kC_InvalidBase => k_is)
    (case ii_InvalidBase => k_is)
    (case ti_InvalidBase => k_is)
    (case tg_InvalidBase => k_is)
    (case ga_InvalidBase => k_is)
    (case gg_InvalidBase => k_is)
    (case hd_InvalidBase => k_is)
    (case li_InvalidBase => k_is)
    (case ci_InvalidBase => k_is)
    (case ki_InvalidBase => k_is)
    (case em1_InvalidBase => k_is)
    (case em2_InvalidBase => k_is)
    (case em3_InvalidBase => k_is)
    (case a_InvalidDigits => k_is)
    (case oe_InvalidDigits => k_is)
    (case vm_InvalidDigits => decide +kernel)
    (case sa_InvalidDigits => k_is)
    (case eC_InvalidDigits => k_is)
    (case tC_InvalidDigits => k_is)
    (case kC_InvalidDigits => k_is)
    (case ii_InvalidDigits => k_is)
    (case ti_InvalidDigits => k_is)
    (case tg_InvalidDigits => k_is)
    (case ga_InvalidDigits => k_is)
    (case gg_InvalidDigits => k_is)
    (case hd_InvalidDigits => k_is)
    (case li_InvalidDigits => k_is)
    (case ci_InvalidDigits => k_is)
    (case ki_InvalidDigits => k_is)
    (case em1_InvalidDigits => k_is)
    (case em2_InvalidDigits => k_is)
    (case em3_InvalidDigits => k_is)
    (case a_OutOfRange => k_is)
    (case oe_OutOfRange => k_is)
    (case vm_OutOfRange => decide +kernel)
    (case sa_OutOfRange => k_is)
    (case eC_OutOfRange => k_is)
    (case tC_OutOfRange => k_is)
    (case kC_OutOfRange => k_is)
    (case ii_OutOfRange => k_is)
    (case ti_OutOfRange => k_is)
    (case tg_OutOfRange => k_is)
    (case ga_OutOfRange => k_is)
    (case gg_OutOfRange => k_is)
    (case hd_OutOfRange => k_is)
    (case li_OutOfRange => k_is)
    (case ci_OutOfRange => k_is)
    (case ki_OutOfRange => k_is)
    (case em1_OutOfRange => k_is)
    (case em2_OutOfRange => k_is)
    (case em3_OutOfRange => k_is)
#print axioms PySem.Challenge.cw_earlywrite_k05_rows_of_numbers_holds

