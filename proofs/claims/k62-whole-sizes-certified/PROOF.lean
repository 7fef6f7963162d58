import PyProof.Rows.All
import Wide.All
import OpenK.AllK
import Wide.FinOn
import KE.KStateDown
import HandS.ForMost
import HandS.More
import HandS.Exc
import HandS.Wide
import HandS.WideBits
import HandS.Style
import HandS.Conv
import HandS.Lambda
import HandS.ExcCtx
import HandS.HotCalls
import HandS.CallSlots
import HandS.Flow
import HandS.TupAny
import HandS.Defaults
import HandS.WordsExc
import HandS.FStrTup
import HandS.TupLe
import HandS.RaiseMore
import HandS.IsInst
import KE.DataEq
import KE.DataMinMax
import KE.SortData
import HandS.SortInts
import HandS.Head0
import HandS.Head1
import HandS.Head2
import HandS.HeadEnd
import HandS.HeadHook1
import HandS.HeadHook2
import HandS.HeadHook3
import HandS.HeadHook4
import HandS.Zip
import HandS.Iter
import HandS.Property
import HandS.OwnEq
import KE.KOpsOwn
import KE.KCallOwn
import KE.KFmtOwn
import PyProof.InstEq
import HandS.ClsMeth
import HandS.ExcInit
import HandS.ExcIs
import HandS.ExcField
import KE.KExcInit
import PyProof.ExcBaseAll.ArithmeticError
import HandS.Strs
import HandS.SetFor
import HandS.Dict
import HandS.RevTup
import KE.KTupSum
import HandS.Text
import HandS.Star
import HandS.FStr
import HandS.DictComp
import HandS.SetBool
import HandS.List
import HandS.TupMul
import HandS.NamedTupSort
import KE.KSortTupAny
import KE.LtData
import PyProof.NeKinds
import HandS.SlotsOwn
import HandS.MakeKwOnly
import HandS.MakeKw
import HandS.Ends
import PyProof.ReprRoads
import PyProof.ReprLen
import PyProof.FitsInt
import HandS.EndTab
import HandS.EndBits
import KE.KTryMore
import PyProof.RulesAs
import KE.KExcIs
import PyProof.ReprNest
import PyProof.ReprUnder
import HandS.NoneIn
import HandS.Codes
import PySem.Challenge.RW_hoursums_k62_whole_sizes_certified
set_option Elab.async false
set_option linter.all false
set_option maxRecDepth 100000
set_option autoImplicit false
set_option maxHeartbeats 0
namespace Mi
open PySem PySem.Spec PyProof.Rows L2
inductive PD where
  | non | bl (b : Bool) | int (i : Int) | str (x : Str)
  | tup (xs : List PD) | lst (xs : List PD) | scr (xs : List PD)
  | dct (ks : List Key) (vs : List PD)
  | ins (c : Nat) (vs : List PD)
  | unk
  /-- the exception that is handled: its class, what it keeps -/
  | exc (c : Nat) (xs : List PD)
/-- a value: data, or a mutable object by its number -/
inductive VL where
  | d (x : PD) | r (k : Nat)
/-- what a mutable object holds -/
inductive MO where
  | lst (xs : List PD) | dct (ks : List Key) (vs : List PD) | ins (c : Nat) (fs : List (Str × VL)) | gone
  /-- a dict of mutable objects; one whose keys are tuples; a new tuple of numbers and texts -/
  | dcr (ks : List Key) (vs : List VL) | dtp (ks : List (List Key)) (vs : List PD) | tpm (ks : List Key)
/-- the classes: where they stand, their fields -/
structure Tb where
  ca : Nat → Addr
  fn : Nat → List Str
  /-- the tables of code objects that may grow -/
  tb : List (Addr × Str) := []
  /-- the exception that is handled: where, its class, its dict -/
  ex : Option (Addr × Nat × Option Addr) := none
  /-- the classes of the errors that may be handled -/
  es : List Nat := []
abbrev MH := List MO
abbrev EV := List (Option VL)
inductive Rs (β : Type) where
  | ok (b : β) (M : MH)
  | ex (c : Nat) (xs : List PD) (M : MH)
section
variable (K : PySem.W.Frag) (T : Tb)
mutual
inductive Rep (F : Hp) : V → PD → Prop
  | non : Rep F .non .non
  | bl (b : Bool) : Rep F (.bl b) (.bl b)
  | int (i : Int) : Rep F (.int i) (.int i)
  | str (x : Str) : Rep F (.str x) (.str x)
  | unk (x : Str) : Rep F (.str x) .unk
  | tup {a : Addr} {xs : List V} {ds : List PD} : SqT K F a xs → Reps F xs ds → Rep F (.ref a) (.tup ds)
  | lst {a : Addr} {xs : List V} {ds : List PD} : F a = some (.lst xs) → Reps F xs ds → Rep F (.ref a) (.lst ds)
  | scr {a : Addr} {xs : List V} {ds : List PD} : SqL K F a xs → Reps F xs ds → Rep F (.ref a) (.scr ds)
  | dct {a : Addr} {kvs : List (Key × V)} {ks : List Key} {ds : List PD} {xs : List V} : Rd F a (.dK kvs) → kvs.map (·.1) = ks → kvs.map (·.2) = xs → Reps F xs ds → Rep F (.ref a) (.dct ks ds)
  | ins {a dx : Addr} {fs : List (Str × V)} {c : Nat} {ds : List PD} {xs : List V} : F a = some (.ins (T.ca c) dx fs) → fs.map (·.1) = T.fn c → fs.map (·.2) = xs → Reps F xs ds → Rep F (.ref a) (.ins c ds)
  | exc0 {a : Addr} {c : Nat} : T.ex = some (a, c, none) → Rep F (.ref a) (.exc c [])
  | exc1 {a d : Addr} {c : Nat} {n : Str} {v : V} {xs : List PD} : T.ex = some (a, c, some d) → T.fn c = [n] → F d = some (.xd [(n, v)]) → Reps F [v] xs → Rep F (.ref a) (.exc c xs)
inductive Reps (F : Hp) : List V → List PD → Prop
  | nil : Reps F [] []
  | cons {v : V} {vs : List V} {d : PD} {ds : List PD} : Rep F v d → Reps F vs ds → Reps F (v :: vs) (d :: ds)
end
end
section
variable {K : PySem.W.Frag} {T : Tb} {F F' : Hp}
theorem rd_mono (e : Same F F') {a : Addr} {u : HO} (h : Rd F a u) : Rd F' a u := by
  rcases h with h | ⟨o, h⟩
  · exact .inl (e _ _ h)
  · exact .inr ⟨o, e _ _ h⟩
theorem sqT_mono (e : Same F F') {a : Addr} {xs : List V} (h : SqT K F a xs) : SqT K F' a xs := by
  rcases h with h | h
  · exact .inl (rd_mono e h)
  · exact .inr h
theorem sqL_mono (e : Same F F') {a : Addr} {xs : List V} (h : SqL K F a xs) : SqL K F' a xs := by
  rcases h with h | h
  · exact .inl (rd_mono e h)
  · exact .inr h
mutual
theorem Rep.mono (e : Same F F') : ∀ {d : PD} {v : V}, Rep K T F v d → Rep K T F' v d
  | .non, _, h => by cases h; exact .non
  | .bl b, _, h => by cases h; exact .bl b
  | .int i, _, h => by cases h; exact .int i
  | .str x, _, h => by cases h; exact .str x
  | .unk, _, h => by cases h; exact .unk _
  | .tup ds, _, h => by
    cases h with
    | tup h1 h2 => exact .tup (sqT_mono e h1) (Reps.mono e h2)
  | .lst ds, _, h => by
    cases h with
    | lst h1 h2 => exact .lst (e _ _ h1) (Reps.mono e h2)
  | .scr ds, _, h => by
    cases h with
    | scr h1 h2 => exact .scr (sqL_mono e h1) (Reps.mono e h2)
  | .dct ks ds, _, h => by
    cases h with
    | dct h1 h2 h3 h4 => exact .dct (rd_mono e h1) h2 h3 (Reps.mono e h4)
  | .ins c ds, _, h => by
    cases h with
    | ins h1 h2 h3 h4 => exact .ins (e _ _ h1) h2 h3 (Reps.mono e h4)
  | .exc c ds, _, h => by
    cases h with
    | exc0 h1 => exact .exc0 h1
    | exc1 h1 h2 h3 h4 => exact .exc1 h1 h2 (e _ _ h3) (Reps.mono e h4)
theorem Reps.mono (e : Same F F') : ∀ {ds : List PD} {vs : List V}, Reps K T F vs ds → Reps K T F' vs ds
  | [], _, h => by cases h; exact .nil
  | d :: ds, _, h => by
    cases h with
    | cons h1 h2 => exact .cons (Rep.mono e h1) (Reps.mono e h2)
end
theorem Reps.length : ∀ {vs : List V} {ds : List PD}, Reps K T F vs ds → vs.length = ds.length
  | [], _, h => by cases h; rfl
  | v :: vs, _, h => by
    cases h with
    | cons h1 h2 => exact congrArg Nat.succ (Reps.length h2)
theorem Reps.get : ∀ {vs : List V} {ds : List PD} {i : Nat} {d : PD}, Reps K T F vs ds → ds[i]? = some d → ∃ v, vs[i]? = some v ∧ Rep K T F v d
  | _, [], _, _, h, e => by simp at e
  | _, d :: ds, 0, x, h, e => by
    cases h with
    | cons h1 h2 =>
      have q : d = x := by simpa using e
      subst q
      exact ⟨_, rfl, h1⟩
  | _, d :: ds, i + 1, _, h, e => by
    cases h with
    | cons h1 h2 =>
      obtain ⟨v, q1, q2⟩ := Reps.get (i := i) h2 (by simpa using e)
      exact ⟨v, by simpa using q1, q2⟩
theorem Reps.append : ∀ {vs : List V} {ds : List PD} {ws : List V} {es : List PD}, Reps K T F vs ds → Reps K T F ws es → Reps K T F (vs ++ ws) (ds ++ es)
  | _, [], _, _, h, h' => by cases h; exact h'
  | _, d :: ds, _, _, h, h' => by
    cases h with
    | cons h1 h2 => exact .cons h1 (Reps.append h2 h')
theorem Reps.drop : ∀ {n : Nat} {vs : List V} {ds : List PD}, Reps K T F vs ds → Reps K T F (vs.drop n) (ds.drop n)
  | 0, _, _, h => by simpa using h
  | n + 1, _, [], h => by cases h; simpa using Reps.nil
  | n + 1, _, d :: ds, h => by
    cases h with
    | cons h1 h2 => simpa using Reps.drop (n := n) h2
theorem Reps.take : ∀ {n : Nat} {vs : List V} {ds : List PD}, Reps K T F vs ds → Reps K T F (vs.take n) (ds.take n)
  | 0, _, _, h => by simpa using Reps.nil
  | n + 1, _, [], h => by cases h; simpa using Reps.nil
  | n + 1, _, d :: ds, h => by
    cases h with
    | cons h1 h2 => simpa using Reps.cons h1 (Reps.take (n := n) h2)
theorem Reps.reverse : ∀ {vs : List V} {ds : List PD}, Reps K T F vs ds → Reps K T F vs.reverse ds.reverse
  | _, [], h => by cases h; simpa using Reps.nil
  | _, d :: ds, h => by
    cases h with
    | cons h1 h2 =>
      rw [List.reverse_cons, List.reverse_cons]
      exact (Reps.reverse h2).append (.cons h1 .nil)
theorem Reps.set : ∀ {i : Nat} {vs : List V} {ds : List PD} {v : V} {d : PD}, Reps K T F vs ds → Rep K T F v d → Reps K T F (vs.set i v) (ds.set i d)
  | _, _, [], _, _, h, _ => by cases h; simpa using Reps.nil
  | 0, _, d :: ds, _, _, h, r => by
    cases h with
    | cons h1 h2 => simpa using Reps.cons r h2
  | i + 1, _, d :: ds, _, _, h, r => by
    cases h with
    | cons h1 h2 => simpa using Reps.cons h1 (Reps.set (i := i) h2 r)
end
section
variable (K : PySem.W.Frag) (T : Tb)
def RepV (F : Hp) (α : List Addr) (v : V) : VL → Prop
  | .d x => Rep K T F v x
  | .r k => ∃ a, α[k]? = some a ∧ v = .ref a
inductive RepVs (F : Hp) (α : List Addr) : List V → List VL → Prop
  | nil : RepVs F α [] []
  | cons {v : V} {vs : List V} {d : VL} {ds : List VL} : RepV K T F α v d → RepVs F α vs ds → RepVs F α (v :: vs) (d :: ds)
def RepF (F : Hp) (α : List Addr) (fs : List (Str × V)) (gs : List (Str × VL)) : Prop := fs.map (·.1) = gs.map (·.1) ∧ RepVs K T F α (fs.map (·.2)) (gs.map (·.2))
def MOk (F : Hp) (α : List Addr) (H : Hp) (a : Addr) : MO → Prop
  | .lst ds => ∃ xs, H a = some (.lst xs) ∧ Reps K T F xs ds
  | .dct ks ds => ∃ kvs, H a = some (.dK kvs) ∧ kvs.map (·.1) = ks ∧ Reps K T F (kvs.map (·.2)) ds
  | .ins c gs => ∃ dx fs, H a = some (.ins (T.ca c) dx fs) ∧ RepF K T F α fs gs
  | .dcr ks gs => ∃ kvs, H a = some (.dK kvs) ∧ kvs.map (·.1) = ks ∧ RepVs K T F α (kvs.map (·.2)) gs
  | .dtp ks ds => ∃ kvs, H a = some (.dT kvs) ∧ kvs.map (·.1) = ks ∧ Reps K T F (kvs.map (·.2)) ds
  | .tpm ks => H a = some (.tup (ks.map kV))
  | .gone => True
/-- what an object names is older than it -/
def Old (k : Nat) : MO → Prop
  | .ins _ gs => ∀ g ∈ gs, ∀ j, g.2 = .r j → j < k
  | .dcr _ gs => ∀ g ∈ gs, ∀ j, g = .r j → j < k
  | _ => True
def Kept (H : Hp) (a : Addr) (o : HO) : Prop := H a = some o ∨ ∃ kvs ob, o = .dK kvs ∧ H a = some (.frz ob o)
/-- a table of code objects, these told by what stands still -/
def TabF (H F : Hp) (q : Addr × Str) : Prop := ∃ ps : Array Value, H q.1 = some (.tbl ps) ∧ TriplesOk ps.toList ∧ ∀ (pos : Pos) (cv : Value), codeAmong pos ps.toList = some cv → ∃ c, cv = .ref c ∧ F c = some (LamX.CodeO c q.2)
structure HR (H : Hp) (M : MH) (F : Hp) (α : List Addr) : Prop where
  fr : ∀ a o, F a = some o → Kept H a o
  len : α.length = M.length
  nd : α.Nodup
  al : ∀ a ∈ α, H a ≠ none
  sep : ∀ (k : Nat) (a : Addr), α[k]? = some a → M[k]? ≠ some MO.gone → F a = none
  obj : ∀ (k : Nat) (mo : MO) (a : Addr), M[k]? = some mo → α[k]? = some a → MOk K T F α H a mo
  old : ∀ (k : Nat) (mo : MO), M[k]? = some mo → Old k mo
  tab : ∀ q ∈ T.tb, TabF H F q ∧ F q.1 = none ∧ q.1 ∉ α
end
/-- kept in a step: a table of code objects stays one -/
def KpT (H' : Hp) (a : Addr) : HO → Prop
  | .tbl _ => ∃ ps', H' a = some (.tbl ps')
  | o => H' a = some o
section
variable {H' H'' : Hp} {a p : Addr} {o u : HO}
theorem KpT.of (h : H' a = some o) : KpT H' a o := by
  cases o <;> first | exact h | exact ⟨_, h⟩
theorem KpT.up (n : a ≠ p) (h : KpT H' a o) : KpT (upd H' p u) a o := by
  cases o <;> first | exact (upd_ne n).trans h | (obtain ⟨ps, h⟩ := h; exact ⟨ps, (upd_ne n).trans h⟩)
theorem KpT.un (n : a ≠ p) (h : KpT (upd H' p u) a o) : KpT H' a o := by
  cases o <;> first | exact (upd_ne n).symm.trans h | (obtain ⟨ps, h⟩ := h; exact ⟨ps, (upd_ne n).symm.trans h⟩)
theorem KpT.some (h : KpT H' a o) : ∃ u, H' a = some u := by
  cases o <;> first | exact ⟨_, h⟩ | (obtain ⟨ps, h⟩ := h; exact ⟨_, h⟩)
theorem KpT.trans (h : KpT H' a o) (k : ∀ u, H' a = Option.some u → KpT H'' a u) : KpT H'' a o := by
  cases o <;> first | exact k _ h | (obtain ⟨ps, h⟩ := h; have z := k _ h; exact z)
end
structure Step (H F : Hp) (α : List Addr) (H' F' : Hp) (α' : List Addr) : Prop where
  ext : Same F F'
  pre : ∃ β, α' = α ++ β
  keep : ∀ a o, H a = some o → a ∉ α → F a = none → KpT H' a o ∧ F' a = none ∧ a ∉ α'
section
variable {K : PySem.W.Frag} {T : Tb} {F F' H H' H'' F'' : Hp} {α α' α'' : List Addr} {M M' : MH}
theorem pre_get {β : List Addr} {k : Nat} {a : Addr} (h : α[k]? = some a) : (α ++ β)[k]? = some a := by
  have := (List.getElem?_eq_some_iff.mp h).1
  rw [List.getElem?_append_left this]; exact h
theorem RepV.mono (s : Step H F α H' F' α') {v : V} {x : VL} (h : RepV K T F α v x) : RepV K T F' α' v x := by
  cases x with
  | d x => exact Rep.mono s.ext h
  | r k =>
    obtain ⟨a, e, rfl⟩ := h
    obtain ⟨β, rfl⟩ := s.pre
    exact ⟨a, pre_get e, rfl⟩
theorem RepVs.mono (s : Step H F α H' F' α') : ∀ {vs : List V} {xs : List VL}, RepVs K T F α vs xs → RepVs K T F' α' vs xs
  | _, _, .nil => .nil
  | _, _, .cons h t => .cons (h.mono s) (RepVs.mono s t)
theorem RepVs.length : ∀ {vs : List V} {xs : List VL}, RepVs K T F α vs xs → vs.length = xs.length
  | _, _, .nil => rfl
  | _, _, .cons h t => congrArg Nat.succ t.length
theorem RepF.mono (s : Step H F α H' F' α') {fs : List (Str × V)} {gs : List (Str × VL)} (h : RepF K T F α fs gs) : RepF K T F' α' fs gs := ⟨h.1, h.2.mono s⟩
theorem Step.refl : Step H F α H F α := ⟨Same.refl _, ⟨[], by simp⟩, fun _ _ h n f => ⟨KpT.of h, f, n⟩⟩
theorem Step.trans (a : Step H F α H' F' α') (b : Step H' F' α' H'' F'' α'') : Step H F α H'' F'' α'' := by
  refine ⟨a.ext.trans b.ext, ?_, fun x o h n f => ?_⟩
  · obtain ⟨β, rfl⟩ := a.pre
    obtain ⟨γ, rfl⟩ := b.pre
    exact ⟨β ++ γ, by rw [List.append_assoc]⟩
  · obtain ⟨h1, f1, n1⟩ := a.keep x o h n f
    obtain ⟨u, hu⟩ := h1.some
    exact ⟨h1.trans fun u' e => (b.keep x u' e n1 f1).1, (b.keep x u hu n1 f1).2⟩
theorem HR.freeF (R : HR K T H M F α) {p : Addr} (h : H p = none) : F p = none := by
  cases e : F p with
  | none => rfl
  | some o =>
    rcases R.fr p o e with q | ⟨_, _, _, q⟩ <;> (rw [h] at q; cases q)
theorem HR.freeA (R : HR K T H M F α) {p : Addr} (h : H p = none) : p ∉ α := fun m => R.al p m h
theorem kept_upd {p a : Addr} {o u : HO} (h : Kept H a u) (n : a ≠ p) : Kept (upd H p o) a u := by
  rcases h with h | ⟨kvs, ob, e, h⟩
  · exact .inl (by rw [upd_ne n]; exact h)
  · exact .inr ⟨kvs, ob, e, by rw [upd_ne n]; exact h⟩
theorem same_new {p : Addr} {o : HO} (h : F p = none) : Same F (upd F p o) := fun b u e => by
  rw [upd_ne (fun q => by rw [q, h] at e; cases e)]; exact e
theorem MOk.mono (s : Step H F α H' F' α') {a : Addr} {mo : MO} (e : H' a = H a) (h : MOk K T F α H a mo) : MOk K T F' α' H' a mo := by
  cases mo with
  | lst ds => obtain ⟨xs, h1, h2⟩ := h; exact ⟨xs, e.trans h1, Reps.mono s.ext h2⟩
  | dct ks ds => obtain ⟨kvs, h1, h2, h3⟩ := h; exact ⟨kvs, e.trans h1, h2, Reps.mono s.ext h3⟩
  | ins c gs => obtain ⟨dx, fs, h1, h2⟩ := h; exact ⟨dx, fs, e.trans h1, h2.mono s⟩
  | dcr ks gs => obtain ⟨kvs, h1, h2, h3⟩ := h; exact ⟨kvs, e.trans h1, h2, h3.mono s⟩
  | dtp ks ds => obtain ⟨kvs, h1, h2, h3⟩ := h; exact ⟨kvs, e.trans h1, h2, Reps.mono s.ext h3⟩
  | tpm ks => exact e.trans h
  | gone => trivial
/-- a new object that never changes -/
theorem step_new {p : Addr} {o : HO} (R : HR K T H M F α) (h : H p = none) : Step H F α (upd H p o) (upd F p o) α :=
  ⟨same_new (R.freeF h), ⟨[], by simp⟩, fun a u e n f => by
    have q : a ≠ p := fun q => by rw [q, h] at e; cases e
    exact ⟨KpT.of (by rw [upd_ne q]; exact e), by rw [upd_ne q]; exact f, n⟩⟩
theorem TabF.mono {q : Addr × Str} (e : H' q.1 = H q.1) (s : Same F F') (t : TabF H F q) : TabF H' F' q := by
  obtain ⟨ps, t0, t1, t2⟩ := t
  refine ⟨ps, e.trans t0, t1, fun pos cv hc => ?_⟩
  obtain ⟨c, e1, e2⟩ := t2 pos cv hc
  exact ⟨c, e1, s _ _ e2⟩
theorem TabF.ne {q : Addr × Str} {p : Addr} (t : TabF H F q) (h : ∀ ps, H p ≠ some (.tbl ps)) : q.1 ≠ p := fun z => by
  obtain ⟨ps, e, _⟩ := t
  exact h ps (by rw [← z]; exact e)
theorem TabF.upN {q : Addr × Str} {p : Addr} {o : HO} (t : TabF H F q) (n : q.1 ≠ p) : TabF (upd H p o) F q := t.mono (upd_ne n) (Same.refl _)
theorem tab_tell {q : Addr × Str} {a : Addr} {o : HO} (h : H a = some o) (f : F a = none) (ht : ∀ ps, o ≠ .tbl ps) (t : TabF H F q ∧ F q.1 = none ∧ q.1 ∉ α) : TabF H (upd F a o) q ∧ upd F a o q.1 = none ∧ q.1 ∉ α := by
  obtain ⟨t0, t2, t3⟩ := t
  have n : q.1 ≠ a := t0.ne fun ps e => ht ps (Option.some.inj (h.symm.trans e))
  exact ⟨t0.mono rfl (same_new f), by rw [upd_ne n]; exact t2, t3⟩
theorem tab_up {q : Addr × Str} {a : Addr} {o u : HO} (h : H a = some u) (ht : ∀ ps, u ≠ .tbl ps) (t : TabF H F q ∧ F q.1 = none ∧ q.1 ∉ α) : TabF (upd H a o) F q ∧ F q.1 = none ∧ q.1 ∉ α :=
  ⟨t.1.upN (t.1.ne fun ps e => ht ps (Option.some.inj (h.symm.trans e))), t.2⟩
theorem HR.new {p : Addr} {o : HO} (R : HR K T H M F α) (h : H p = none) : HR K T (upd H p o) M (upd F p o) α := by
  have hA := R.freeA h
  have ne : ∀ a ∈ α, a ≠ p := fun a m q => hA (q ▸ m)
  have s : Step H F α (upd H p o) (upd F p o) α := step_new R h
  refine ⟨fun a u e => ?_, R.len, R.nd, fun a m => ?_, fun k a e g => ?_, fun k mo a e1 e2 => ?_, R.old, fun q hq => ?_⟩
  · by_cases q : a = p
    · subst q
      rw [upd_same] at e
      cases e
      exact .inl upd_same
    · rw [upd_ne q] at e
      exact kept_upd (R.fr a u e) q
  · rw [upd_ne (ne a m)]; exact R.al a m
  · rw [upd_ne (ne a (List.mem_of_getElem? e))]; exact R.sep k a e g
  · exact (R.obj k mo a e1 e2).mono s (upd_ne (ne a (List.mem_of_getElem? e2)))
  · obtain ⟨t1, t2, t3⟩ := R.tab q hq
    have n : q.1 ≠ p := t1.ne fun ps e => by rw [h] at e; cases e
    exact ⟨t1.mono (upd_ne n) (same_new (R.freeF h)), by rw [upd_ne n]; exact t2, t3⟩
/-- an object that is tracked, but told by nobody -/
theorem HR.side {p : Addr} {o : HO} (R : HR K T H M F α) (h : H p = none) : HR K T (upd H p o) M F α := by
  have hA := R.freeA h
  have ne : ∀ a ∈ α, a ≠ p := fun a m q => hA (q ▸ m)
  refine ⟨fun a u e => ?_, R.len, R.nd, fun a m => ?_, R.sep, fun k mo a e1 e2 => ?_, R.old, fun q hq => ?_⟩
  · have q : a ≠ p := fun q => by rw [q, R.freeF h] at e; cases e
    exact kept_upd (R.fr a u e) q
  · rw [upd_ne (ne a m)]; exact R.al a m
  · refine (R.obj k mo a e1 e2).mono (H := H) ⟨Same.refl _, ⟨[], by simp⟩, fun b u e n f => ⟨KpT.of ?_, f, n⟩⟩ (upd_ne (ne a (List.mem_of_getElem? e2)))
    rw [upd_ne (fun q => by rw [q, h] at e; cases e)]; exact e
  · obtain ⟨t1, t2, t3⟩ := R.tab q hq
    exact ⟨t1.upN (t1.ne fun ps e => by rw [h] at e; cases e), t2, t3⟩
theorem step_side {p : Addr} {o : HO} (h : H p = none) : Step H F α (upd H p o) F α :=
  ⟨Same.refl _, ⟨[], by simp⟩, fun b u e n f => ⟨KpT.of (by rw [upd_ne (fun q => by rw [q, h] at e; cases e)]; exact e), f, n⟩⟩
/-- a new mutable object -/
theorem step_mut {p : Addr} {o : HO} (R : HR K T H M F α) (h : H p = none) : Step H F α (upd H p o) F (α ++ [p]) :=
  ⟨Same.refl _, ⟨[p], rfl⟩, fun a u e n f => by
    have q : a ≠ p := fun q => by rw [q, h] at e; cases e
    exact ⟨KpT.of (by rw [upd_ne q]; exact e), f, by simp [n, q]⟩⟩
theorem RepVs.more {β : List Addr} : ∀ {vs : List V} {xs : List VL}, RepVs K T F α vs xs → RepVs K T F (α ++ β) vs xs
  | _, _, .nil => .nil
  | _, _, .cons (d := .d x) r t => .cons (d := .d x) r (RepVs.more t)
  | _, _, .cons (d := .r k) r t => .cons (d := .r k) (let ⟨a, e, q⟩ := r; ⟨a, pre_get e, q⟩) (RepVs.more t)
theorem MOk.more {β : List Addr} {a : Addr} {mo : MO} (h : MOk K T F α H a mo) : MOk K T F (α ++ β) H a mo := by
  cases mo with
  | lst ds => exact h
  | dct ks ds => exact h
  | ins c gs => obtain ⟨dx, fs, h1, h2⟩ := h; exact ⟨dx, fs, h1, h2.1, h2.2.more⟩
  | dcr ks gs => obtain ⟨kvs, h1, h2, h3⟩ := h; exact ⟨kvs, h1, h2, h3.more⟩
  | dtp ks ds => exact h
  | tpm ks => exact h
  | gone => trivial
theorem HR.adopt {p : Addr} {mo : MO} (R : HR K T H M F α) (h : H p ≠ none) (hA : p ∉ α) (hF : F p = none) (ok : MOk K T F (α ++ [p]) H p mo) (ho : Old M.length mo) (hg : ∀ ps, H p ≠ some (.tbl ps)) : HR K T H (M ++ [mo]) F (α ++ [p]) := by
  have ne : ∀ a ∈ α, a ≠ p := fun a m q => hA (q ▸ m)
  have cs : ∀ {k : Nat} {a : Addr}, (α ++ [p])[k]? = some a → α[k]? = some a ∨ (k = M.length ∧ a = p) := fun {k a} e => by
    by_cases q : k < α.length
    · rw [List.getElem?_append_left q] at e; exact .inl e
    · rw [List.getElem?_append_right (by omega)] at e
      have z : k - α.length = 0 := by
        have := (List.getElem?_eq_some_iff.mp e).1
        simpa using this
      rw [z] at e
      refine .inr ⟨?_, by simpa using e.symm⟩
      have := R.len
      omega
  refine ⟨R.fr, by simp [R.len], ?_, fun a m => ?_, fun k a e g => ?_, fun k mo' a e1 e2 => ?_, fun k mo' e => ?_, fun q hq => ?_⟩
  · rw [List.nodup_append]
    exact ⟨R.nd, by simp, fun a m b mb => by
      have : b = p := by simpa using mb
      subst this; exact ne a m⟩
  · rcases List.mem_append.mp m with m | m
    · exact R.al a m
    · have : a = p := by simpa using m
      subst this; exact h
  · rcases cs e with q | ⟨_, q⟩
    · refine R.sep k a q fun z => g ?_
      rw [List.getElem?_append_left (List.getElem?_eq_some_iff.mp z).1]; exact z
    · subst q; exact hF
  · rcases cs e2 with q | ⟨q1, q2⟩
    · have lt : k < M.length := by
        have := (List.getElem?_eq_some_iff.mp q).1
        have := R.len
        omega
      rw [List.getElem?_append_left lt] at e1
      exact (R.obj k mo' a e1 q).more
    · subst q1 q2
      have : mo' = mo := by simpa using e1.symm
      subst this
      exact ok
  · by_cases lt : k < M.length
    · rw [List.getElem?_append_left lt] at e
      exact R.old k mo' e
    · rw [List.getElem?_append_right (by omega)] at e
      have z : k - M.length = 0 := by
        have := (List.getElem?_eq_some_iff.mp e).1
        simpa using this
      rw [z] at e
      have : mo' = mo := by simpa using e.symm
      subst this
      have ek : k = M.length := by omega
      rw [ek]; exact ho
  · obtain ⟨t1, t2, t3⟩ := R.tab q hq
    refine ⟨t1, t2, fun m => ?_⟩
    rcases List.mem_append.mp m with m | m
    · exact t3 m
    · exact t1.ne hg (by simpa using m)
theorem HR.mut {p : Addr} {o : HO} {mo : MO} (R : HR K T H M F α) (h : H p = none) (ok : MOk K T F (α ++ [p]) (upd H p o) p mo) (ho : Old M.length mo := by exact True.intro) (hn : ∀ ps, o ≠ .tbl ps := by intro ps z; cases z) : HR K T (upd H p o) (M ++ [mo]) F (α ++ [p]) :=
  (R.side h).adopt (by rw [upd_same]; simp) (R.freeA h) (R.freeF h) ok ho fun ps z => hn ps (by rw [upd_same] at z; exact Option.some.inj z)
/-- a mutable object is written -/
theorem HR.write {k : Nat} {a : Addr} {o : HO} {mo : MO} (R : HR K T H M F α) (ha : α[k]? = some a) (hg : M[k]? ≠ some MO.gone) (ok : MOk K T F α (upd H a o) a mo) (ho : Old k mo := by exact True.intro) : HR K T (upd H a o) (M.set k mo) F α := by
  have hF : F a = none := R.sep k a ha hg
  have hk : k < M.length := by
    have := (List.getElem?_eq_some_iff.mp ha).1
    have := R.len
    omega
  have s : ∀ b, b ≠ a → (upd H a o) b = H b := fun b q => upd_ne q
  refine ⟨fun b u e => ?_, by simp [R.len], R.nd, fun b m => ?_, fun j b e g => ?_, fun j mo' b e1 e2 => ?_, fun j mo' e => ?_, fun q hq => ?_⟩
  · have q : b ≠ a := fun q => by rw [q, hF] at e; cases e
    exact kept_upd (R.fr b u e) q
  · by_cases q : b = a
    · subst q; rw [upd_same]; simp
    · rw [upd_ne q]; exact R.al b m
  · by_cases q : j = k
    · subst q
      rw [ha] at e
      cases e
      exact hF
    · exact R.sep j b e fun z => g (by rw [List.getElem?_set_ne (Ne.symm q)]; exact z)
  · by_cases q : j = k
    · subst q
      rw [ha] at e2
      cases e2
      rw [List.getElem?_set_self hk] at e1
      cases e1
      exact ok
    · rw [List.getElem?_set_ne (Ne.symm q)] at e1
      have nb : b ≠ a := fun z => by
        subst z
        obtain ⟨l1, q1⟩ := List.getElem?_eq_some_iff.mp ha
        obtain ⟨l2, q2⟩ := List.getElem?_eq_some_iff.mp e2
        exact q ((List.getElem_inj R.nd).mp (q2.trans q1.symm))
      have h0 := R.obj j mo' b e1 e2
      cases mo' with
      | lst ds => obtain ⟨xs, h1, h2⟩ := h0; exact ⟨xs, (s b nb).trans h1, h2⟩
      | dct ks ds => obtain ⟨kvs, h1, h2, h3⟩ := h0; exact ⟨kvs, (s b nb).trans h1, h2, h3⟩
      | ins c gs => obtain ⟨dx, fs, h1, h2⟩ := h0; exact ⟨dx, fs, (s b nb).trans h1, h2⟩
      | dcr ks gs => obtain ⟨kvs, h1, h2, h3⟩ := h0; exact ⟨kvs, (s b nb).trans h1, h2, h3⟩
      | dtp ks ds => obtain ⟨kvs, h1, h2, h3⟩ := h0; exact ⟨kvs, (s b nb).trans h1, h2, h3⟩
      | tpm ks => exact (s b nb).trans h0
      | gone => trivial
  · by_cases q : j = k
    · subst q
      rw [List.getElem?_set_self hk] at e
      cases e
      exact ho
    · rw [List.getElem?_set_ne (Ne.symm q)] at e
      exact R.old j mo' e
  · obtain ⟨t1, t3, t4⟩ := R.tab q hq
    exact ⟨t1.upN (fun z => t4 (by rw [z]; exact List.mem_of_getElem? ha)), t3, t4⟩
theorem step_write {k : Nat} {a : Addr} {o : HO} (ha : α[k]? = some a) : Step H F α (upd H a o) F α :=
  ⟨Same.refl _, ⟨[], by simp⟩, fun b u e n f => ⟨KpT.of (by
    rw [upd_ne (fun q => n (by rw [q]; exact List.mem_of_getElem? ha))]; exact e), f, n⟩⟩
end
section
variable (K : PySem.W.Frag) (T : Tb) (W : WX)
def LR (F : Hp) (α : List Addr) (σ : L2.St) (ρ : EV) : Prop := ρ.length = σ.length ∧ ∀ (i : Nat) (vl : VL), ρ[i]? = some (some vl) → ∃ v, σ[i]? = some (some v) ∧ RepV K T F α v vl
def ExAt (F : Hp) (c : Nat) (xs : List PD) (dd : Option Addr) : Prop := (xs = [] ∧ dd = none) ∨ ∃ d v x n, xs = [x] ∧ dd = some d ∧ T.fn c = [n] ∧ F d = some (.xd [(n, v)]) ∧ Rep K T F v x
/-- what is wanted behind it -/
def post {β γ : Type} (Rl : Hp → List Addr → γ → β → Prop) (σ : L2.St) (H F : Hp) (α : List Addr) (Q : γ → Hp → Prop) : Rs β → Prop
  | .ok b M' => ∀ v H' F' α', HR K T H' M' F' α' → Step H F α H' F' α' → Rl F' α' v b → Q v H'
  | .ex c xs M' => ∀ dd H' F' α', HR K T H' M' F' α' → Step H F α H' F' α' → ExAt K T F' c xs dd → W (.ref (T.ca c)) dd σ H'
def rd {β γ : Type} (Rl : Hp → List Addr → γ → β → Prop) (g : EV → MH → Option (Rs β)) : L2.St → Hp → (γ → Hp → Prop) → Prop := fun σ H Q =>
  ∃ ρ M F α, LR K T F α σ ρ ∧ HR K T H M F α ∧ ∃ r, g ρ M = some r ∧ post K T W Rl σ H F α Q r
abbrev tE (g : EV → MH → Option (Rs VL)) : TE := rd K T W (RepV K T) g
abbrev tA (g : EV → MH → Option (Rs (List VL))) : TA := rd K T W (RepVs K T) g
abbrev tT (g : EV → MH → Option (Rs Bool)) : TT := rd K T W (fun _ _ b c => b = c) g
end
abbrev EX := EV → MH → Option (Rs VL)
abbrev AX := EV → MH → Option (Rs (List VL))
abbrev TX := EV → MH → Option (Rs Bool)
def bnd {β γ : Type} (x : Option (Rs β)) (f : β → MH → Option (Rs γ)) : Option (Rs γ) := match x with
  | none => none
  | some (.ok b M) => f b M
  | some (.ex c xs M) => some (.ex c xs M)
theorem bnd_ok {β γ : Type} {b : β} {M : MH} {f : β → MH → Option (Rs γ)} : bnd (some (.ok b M)) f = f b M := rfl
section
variable {K : PySem.W.Frag} {T : Tb} {W : WX}
theorem LR.mono {H F H' F' : Hp} {α α' : List Addr} {σ : L2.St} {ρ : EV} (s : Step H F α H' F' α') (h : LR K T F α σ ρ) : LR K T F' α' σ ρ := ⟨h.1, fun i vl e => by
  obtain ⟨v, h1, h2⟩ := h.2 i vl e
  exact ⟨v, h1, h2.mono s⟩⟩
theorem LR.set {F : Hp} {α : List Addr} {σ : L2.St} {ρ : EV} {i : Nat} {v : V} {vl : VL} (h : LR K T F α σ ρ) (r : RepV K T F α v vl) : LR K T F α (σ.set i (some v)) (ρ.set i (some vl)) := by
  refine ⟨by simp [h.1], fun j wl e => ?_⟩
  by_cases q : j = i
  · subst q
    by_cases l : j < ρ.length
    · rw [List.getElem?_set_self l] at e
      have e' : vl = wl := by simpa using e
      subst e'
      exact ⟨v, by rw [List.getElem?_set_self (h.1 ▸ l)], r⟩
    · rw [List.getElem?_eq_none (by simpa using l)] at e
      cases e
  · rw [List.getElem?_set_ne (Ne.symm q)] at e
    obtain ⟨w, h1, h2⟩ := h.2 j wl e
    exact ⟨w, by rw [List.getElem?_set_ne (Ne.symm q)]; exact h1, h2⟩
theorem post_step {β γ : Type} {Rl : Hp → List Addr → γ → β → Prop} {σ : L2.St} {H F H1 F1 : Hp} {α α1 : List Addr} {Q : γ → Hp → Prop} {r : Rs β} (s : Step H F α H1 F1 α1) (h : post K T W Rl σ H F α Q r) : post K T W Rl σ H1 F1 α1 Q r := by
  cases r with
  | ok b M' => exact fun v H' F' α' R s' q => h v H' F' α' R (s.trans s') q
  | ex c xs M' => exact fun dd H' F' α' R s' q => h dd H' F' α' R (s.trans s') q
end
end Mi
namespace Mi
open PySem PySem.Spec PyProof.Rows L2
section
variable {X : Cx}
theorem peImp {e : Expr} {t u : TE} (h : PE X e t) (i : ∀ σ H Q, u σ H Q → t σ H Q) : PE X e u := ⟨fun pins s σ H Q I hw => h.run pins s σ H Q I (i σ H Q hw)⟩
theorem ptImp {e : Expr} {t u : TT} (h : PT X e t) (i : ∀ σ H Q, u σ H Q → t σ H Q) : PT X e u := ⟨fun pins s σ H Q I hw => h.run pins s σ H Q I (i σ H Q hw)⟩
theorem pwImp {e : Expr} {t u : TT} (h : PW X e t) (i : ∀ σ H Q, u σ H Q → t σ H Q) : PW X e u := ⟨fun whole pins s σ H Q I hw => h.run whole pins s σ H Q I (i σ H Q hw)⟩
theorem paImp {es : List Expr} {t u : TA} (h : PA X es t) (i : ∀ σ H Q, u σ H Q → t σ H Q) : PA X es u := ⟨fun pos pins s σ H Q I hw => h.run pos pins s σ H Q I (i σ H Q hw)⟩
theorem psImp {st : Stmt} {t u : TS} (h : PS X st t) (i : ∀ D σ H, u D σ H → t D σ H) : PS X st u := ⟨fun pins s σ H D I hw => h.run pins s σ H D I (i D σ H hw)⟩
theorem pssImp {st : List Stmt} {t u : TS} (h : PSs X st t) (i : ∀ D σ H, u D σ H → t D σ H) : PSs X st u := ⟨fun pins s σ H D I hw => h.run pins s σ H D I (i D σ H hw)⟩
end
section
variable (K : PySem.W.Frag) (T : Tb) (W : WX)
def at_ {β γ : Type} (Rl : Hp → List Addr → γ → β → Prop) (σ : L2.St) (H : Hp) (F : Hp) (α : List Addr) (Q : γ → Hp → Prop) (r : Option (Rs β)) : Prop := ∃ q, r = some q ∧ post K T W Rl σ H F α Q q
end
section
variable {K : PySem.W.Frag} {T : Tb} {W : WX} {β γ δ ε : Type} {Rl : Hp → List Addr → γ → β → Prop} {Rl' : Hp → List Addr → ε → δ → Prop} {σ : L2.St} {ρ : EV} {M : MH} {H F : Hp} {α : List Addr}
theorem rd_of {g : EV → MH → Option (Rs β)} {Q : γ → Hp → Prop} (L : LR K T F α σ ρ) (R : HR K T H M F α) (h : at_ K T W Rl σ H F α Q (g ρ M)) : rd K T W Rl g σ H Q := ⟨ρ, M, F, α, L, R, h⟩
theorem rd_to {g : EV → MH → Option (Rs β)} {Q : γ → Hp → Prop} (h : rd K T W Rl g σ H Q) : ∃ ρ M F α, LR K T F α σ ρ ∧ HR K T H M F α ∧ at_ K T W Rl σ H F α Q (g ρ M) := h
theorem at_step {H1 F1 : Hp} {α1 : List Addr} {Q : γ → Hp → Prop} {r : Option (Rs β)} (s : Step H F α H1 F1 α1) (h : at_ K T W Rl σ H F α Q r) : at_ K T W Rl σ H1 F1 α1 Q r := let ⟨q, e, p⟩ := h; ⟨q, e, post_step s p⟩
theorem at_bind {g : Option (Rs β)} {f : β → MH → Option (Rs δ)} {Q : ε → Hp → Prop} {k : γ → Hp → Prop} (h : at_ K T W Rl' σ H F α Q (bnd g f))
    (hk : ∀ b M1 v H1 F1 α1, Step H F α H1 F1 α1 → HR K T H1 M1 F1 α1 → Rl F1 α1 v b → at_ K T W Rl' σ H1 F1 α1 Q (f b M1) → k v H1) : at_ K T W Rl σ H F α k g := by
  obtain ⟨q, e, p⟩ := h
  cases g with
  | none => cases e
  | some z =>
    refine ⟨z, rfl, ?_⟩
    cases z with
    | ok b M1 => exact fun v H' F' α' R' s rl => hk b M1 v H' F' α' s R' rl ⟨q, e, post_step s p⟩
    | ex c xs M1 =>
      have e2 : Rs.ex c xs M1 = q := Option.some.inj e
      subst e2
      exact p
theorem at_ok {b : β} {M1 : MH} {Q : γ → Hp → Prop} {v : γ} (R : HR K T H M1 F α) (h : at_ K T W Rl σ H F α Q (some (.ok b M1))) (r : Rl F α v b) : Q v H := by
  obtain ⟨q, e, p⟩ := h
  have e2 : Rs.ok b M1 = q := Option.some.inj e
  subst e2
  exact p v H F α R Step.refl r
theorem at_okS {b : β} {M1 : MH} {Q : γ → Hp → Prop} {v : γ} {H1 F1 : Hp} {α1 : List Addr} (s : Step H F α H1 F1 α1) (R : HR K T H1 M1 F1 α1) (h : at_ K T W Rl σ H F α Q (some (.ok b M1))) (r : Rl F1 α1 v b) : Q v H1 := at_ok R (at_step s h) r
end
def dv (M : MH) : VL → Option PD
  | .d x => some x
  | .r k => match M[k]? with
    | some (.lst ds) => some (.lst ds)
    | some (.dct ks ds) => some (.dct ks ds)
    | _ => none
def dvs (M : MH) : List VL → Option (List PD)
  | [] => some []
  | x :: xs => match dv M x, dvs M xs with
    | some a, some as => some (a :: as)
    | _, _ => none
section
variable (K : PySem.W.Frag) (T : Tb)
def Top (F H : Hp) (v : V) (d : PD) : Prop := Rep K T F v d ∨ (match d with
  | .lst ds => ∃ a xs, v = .ref a ∧ H a = some (.lst xs) ∧ Reps K T F xs ds
  | .dct ks ds => ∃ a kvs, v = .ref a ∧ H a = some (.dK kvs) ∧ kvs.map (·.1) = ks ∧ Reps K T F (kvs.map (·.2)) ds
  | _ => False)
inductive Tops (F H : Hp) : List V → List PD → Prop
  | nil : Tops F H [] []
  | cons {v : V} {vs : List V} {d : PD} {ds : List PD} : Top K T F H v d → Tops F H vs ds → Tops F H (v :: vs) (d :: ds)
end
section
variable {K : PySem.W.Frag} {T : Tb} {F H : Hp} {α : List Addr} {M : MH} {v : V}
theorem rd_H (R : HR K T H M F α) {a : Addr} {u : HO} (h : Rd F a u) : Rd H a u := by
  rcases h with h | ⟨o, h⟩
  · rcases R.fr a u h with q | ⟨kvs, ob, e, q⟩
    · exact .inl q
    · exact .inr ⟨ob, q⟩
  · rcases R.fr a _ h with q | ⟨kvs, ob, e, q⟩
    · exact .inr ⟨o, q⟩
    · cases e
theorem sqT_H (R : HR K T H M F α) {a : Addr} {xs : List V} (h : SqT K F a xs) : SqT K H a xs := by
  rcases h with h | h
  · exact .inl (rd_H R h)
  · exact .inr h
theorem sqL_H (R : HR K T H M F α) {a : Addr} {xs : List V} (h : SqL K F a xs) : SqL K H a xs := by
  rcases h with h | h
  · exact .inl (rd_H R h)
  · exact .inr h
theorem lst_H (R : HR K T H M F α) {a : Addr} {xs : List V} (h : F a = some (.lst xs)) : H a = some (.lst xs) := by
  rcases R.fr a _ h with q | ⟨kvs, ob, e, q⟩
  · exact q
  · cases e
theorem ins_H (R : HR K T H M F α) {a C dx : Addr} {fs : List (Str × V)} (h : F a = some (.ins C dx fs)) : H a = some (.ins C dx fs) := by
  rcases R.fr a _ h with q | ⟨kvs, ob, e, q⟩
  · exact q
  · cases e
theorem dv_top (R : HR K T H M F α) {x : VL} {d : PD} (r : RepV K T F α v x) (e : dv M x = some d) : Top K T F H v d := by
  cases x with
  | d y =>
    have q : y = d := Option.some.inj e
    subst q
    exact .inl r
  | r k =>
    obtain ⟨a, ha, rfl⟩ := r
    dsimp only [dv] at e
    cases hm : M[k]? with
    | none => rw [hm] at e; cases e
    | some mo =>
      rw [hm] at e
      have ok := R.obj k mo a hm ha
      cases mo with
      | lst ds =>
        have q : PD.lst ds = d := Option.some.inj e
        subst q
        obtain ⟨xs, h1, h2⟩ := ok
        exact .inr ⟨a, xs, rfl, h1, h2⟩
      | dct ks ds =>
        have q : PD.dct ks ds = d := Option.some.inj e
        subst q
        obtain ⟨kvs, h1, h2, h3⟩ := ok
        exact .inr ⟨a, kvs, rfl, h1, h2, h3⟩
      | ins c gs => cases e
      | gone => cases e
      | dcr ks gs => cases e
      | dtp ks ds => cases e
      | tpm ks => cases e
theorem dvs_tops (R : HR K T H M F α) : ∀ {vs : List V} {xs : List VL} {ds : List PD}, RepVs K T F α vs xs → dvs M xs = some ds → Tops K T F H vs ds
  | _, [], ds, .nil, e => by
    have q : [] = ds := Option.some.inj e
    subst q
    exact .nil
  | _, x :: xs, ds, .cons r t, e => by
    unfold dvs at e
    cases h1 : dv M x with
    | none => rw [h1] at e; cases e
    | some a =>
      cases h2 : dvs M xs with
      | none => rw [h1, h2] at e; cases e
      | some as =>
        rw [h1, h2] at e
        dsimp only at e
        have q : a :: as = ds := Option.some.inj e
        subst q
        exact .cons (dv_top R r h1) (dvs_tops R t h2)
theorem Top.int {i : Int} (h : Top K T F H v (.int i)) : v = .int i := by
  rcases h with h | h
  · cases h; rfl
  · cases h
theorem Top.bl {b : Bool} (h : Top K T F H v (.bl b)) : v = .bl b := by
  rcases h with h | h
  · cases h; rfl
  · cases h
theorem Top.unk (h : Top K T F H v .unk) : ∃ x, v = .str x := by
  rcases h with h | h
  · cases h; exact ⟨_, rfl⟩
  · exact h.elim
theorem Top.str {x : Str} (h : Top K T F H v (.str x)) : v = .str x := by
  rcases h with h | h
  · cases h; rfl
  · cases h
theorem Top.non (h : Top K T F H v .non) : v = .non := by
  rcases h with h | h
  · cases h; rfl
  · cases h
theorem Top.lst (R : HR K T H M F α) {ds : List PD} (h : Top K T F H v (.lst ds)) : ∃ a xs, v = .ref a ∧ H a = some (.lst xs) ∧ Reps K T F xs ds := by
  rcases h with h | h
  · cases h with
    | lst h1 h2 => exact ⟨_, _, rfl, lst_H R h1, h2⟩
  · exact h
theorem Top.scr (R : HR K T H M F α) {ds : List PD} (h : Top K T F H v (.scr ds)) : ∃ a xs, v = .ref a ∧ SqL K H a xs ∧ Reps K T F xs ds := by
  rcases h with h | h
  · cases h with
    | scr h1 h2 => exact ⟨_, _, rfl, sqL_H R h1, h2⟩
  · cases h
theorem Top.tup (R : HR K T H M F α) {ds : List PD} (h : Top K T F H v (.tup ds)) : ∃ a xs, v = .ref a ∧ SqT K H a xs ∧ SqT K F a xs ∧ Reps K T F xs ds := by
  rcases h with h | h
  · cases h with
    | tup h1 h2 => exact ⟨_, _, rfl, sqT_H R h1, h1, h2⟩
  · cases h
theorem Top.dct (R : HR K T H M F α) {ks : List Key} {ds : List PD} (h : Top K T F H v (.dct ks ds)) : ∃ a kvs, v = .ref a ∧ Rd H a (.dK kvs) ∧ kvs.map (·.1) = ks ∧ Reps K T F (kvs.map (·.2)) ds := by
  rcases h with h | ⟨a, kvs, h0, h1, h2, h3⟩
  · cases h with
    | dct h1 h2 h3 h4 => exact ⟨_, _, rfl, rd_H R h1, h2, by rw [h3]; exact h4⟩
  · exact ⟨a, kvs, h0, .inl h1, h2, h3⟩
theorem Top.ins (R : HR K T H M F α) {c : Nat} {ds : List PD} (h : Top K T F H v (.ins c ds)) : ∃ a dx fs, v = .ref a ∧ H a = some (.ins (T.ca c) dx fs) ∧ fs.map (·.1) = T.fn c ∧ Reps K T F (fs.map (·.2)) ds := by
  rcases h with h | h
  · cases h with
    | ins h1 h2 h3 h4 => exact ⟨_, _, _, rfl, ins_H R h1, h2, by rw [h3]; exact h4⟩
  · cases h
theorem Tops.one {d : PD} {vs : List V} (h : Tops K T F H vs [d]) : ∃ v, vs = [v] ∧ Top K T F H v d := by
  cases h with
  | cons h1 h2 => cases h2; exact ⟨_, rfl, h1⟩
theorem Tops.two {d e : PD} {vs : List V} (h : Tops K T F H vs [d, e]) : ∃ v w, vs = [v, w] ∧ Top K T F H v d ∧ Top K T F H w e := by
  cases h with
  | cons h1 h2 =>
    obtain ⟨w, rfl, h3⟩ := h2.one
    exact ⟨_, _, rfl, h1, h3⟩
end
def okD (M : MH) : Option PD → Option (Rs VL)
  | some c => some (.ok (.d c) M)
  | none => none
def op1 (f : PD → Option PD) (x : VL) (M : MH) : Option (Rs VL) := match dv M x with
  | some a => okD M (f a)
  | none => none
def op2 (f : PD → PD → Option PD) (x y : VL) (M : MH) : Option (Rs VL) := match dv M x, dv M y with
  | some a, some b => okD M (f a b)
  | _, _ => none
def opN (f : List PD → Option PD) (xs : List VL) (M : MH) : Option (Rs VL) := match dvs M xs with
  | some as => okD M (f as)
  | none => none
section
variable (K : PySem.W.Frag) (T : Tb)
/-- the end of a rule on data: c, told by what never changes -/
def EndD (H : Hp) (M : MH) (F : Hp) (α : List Addr) (Q : VK) (c : PD) : Prop := ∀ v H' F', HR K T H' M F' α → Step H F α H' F' α → Rep K T F' v c → Q v H'
def rP1 (f : PD → Option PD) : V → Hp → VK → Prop := fun x H Q => ∃ M F α dx c, HR K T H M F α ∧ Top K T F H x dx ∧ f dx = some c ∧ EndD K T H M F α Q c
def rP2 (f : PD → PD → Option PD) : R2 := fun x y H Q => ∃ M F α dx dy c, HR K T H M F α ∧ Top K T F H x dx ∧ Top K T F H y dy ∧ f dx dy = some c ∧ EndD K T H M F α Q c
def rPN (f : List PD → Option PD) : List V → Hp → VK → Prop := fun xs H Q => ∃ M F α ds c, HR K T H M F α ∧ Tops K T F H xs ds ∧ f ds = some c ∧ EndD K T H M F α Q c
end
section
variable {K : PySem.W.Frag} {T : Tb} {W : WX} {F H : Hp} {α : List Addr} {M : MH} {σ : L2.St} {Q : VK} {c : PD}
theorem EndD.int {i : Int} (R : HR K T H M F α) (h : EndD K T H M F α Q (.int i)) : Q (.int i) H := h _ _ _ R Step.refl (.int i)
theorem EndD.bl {b : Bool} (R : HR K T H M F α) (h : EndD K T H M F α Q (.bl b)) : Q (.bl b) H := h _ _ _ R Step.refl (.bl b)
theorem EndD.unk (x : Str) (R : HR K T H M F α) (h : EndD K T H M F α Q .unk) : Q (.str x) H := h _ _ _ R Step.refl (.unk x)
theorem EndD.str {x : Str} (R : HR K T H M F α) (h : EndD K T H M F α Q (.str x)) : Q (.str x) H := h _ _ _ R Step.refl (.str x)
theorem EndD.non (R : HR K T H M F α) (h : EndD K T H M F α Q .non) : Q .non H := h _ _ _ R Step.refl .non
theorem EndD.old (R : HR K T H M F α) (h : EndD K T H M F α Q c) {v : V} (r : Rep K T F v c) : Q v H := h _ _ _ R Step.refl r
theorem EndD.lst (R : HR K T H M F α) {ds : List PD} (h : EndD K T H M F α Q (.lst ds)) {xs : List V} (r : Reps K T F xs ds) {p : Addr} (hp : H p = none) : Q (.ref p) (upd H p (.lst xs)) :=
  h _ _ _ (R.new hp) (step_new R hp) (.lst upd_same (r.mono (same_new (R.freeF hp))))
theorem EndD.tup (R : HR K T H M F α) {ds : List PD} (h : EndD K T H M F α Q (.tup ds)) {xs : List V} (r : Reps K T F xs ds) {p : Addr} (hp : H p = none) : Q (.ref p) (upd H p (.tup xs)) :=
  h _ _ _ (R.new hp) (step_new R hp) (.tup (SqT.of upd_same) (r.mono (same_new (R.freeF hp))))
theorem EndD.dct (R : HR K T H M F α) {ks : List Key} {ds : List PD} (h : EndD K T H M F α Q (.dct ks ds)) {kvs : List (Key × V)} (e : kvs.map (·.1) = ks) (r : Reps K T F (kvs.map (·.2)) ds) {p : Addr} (hp : H p = none) : Q (.ref p) (upd H p (.dK kvs)) :=
  h _ _ _ (R.new hp) (step_new R hp) (.dct (.inl upd_same) e rfl (r.mono (same_new (R.freeF hp))))
theorem end_of (h : at_ K T W (RepV K T) σ H F α Q (some (.ok (.d c) M))) : EndD K T H M F α Q c := fun v H' F' R s r => at_okS s R h r
theorem at_op1 {f : PD → Option PD} {x : V} {vx : VL} (R : HR K T H M F α) (rx : RepV K T F α x vx) (h : at_ K T W (RepV K T) σ H F α Q (op1 f vx M)) : rP1 K T f x H Q := by
  obtain ⟨q, e, p⟩ := h
  unfold op1 at e
  cases h1 : dv M vx with
  | none => rw [h1] at e; cases e
  | some a =>
    rw [h1] at e
    dsimp only at e
    cases h2 : f a with
    | none => rw [h2] at e; cases e
    | some c =>
      rw [h2] at e
      exact ⟨M, F, α, a, c, R, dv_top R rx h1, h2, end_of (W := W) (σ := σ) ⟨q, e, p⟩⟩
theorem at_op2 {f : PD → PD → Option PD} {x y : V} {vx vy : VL} (R : HR K T H M F α) (rx : RepV K T F α x vx) (ry : RepV K T F α y vy) (h : at_ K T W (RepV K T) σ H F α Q (op2 f vx vy M)) : rP2 K T f x y H Q := by
  obtain ⟨q, e, p⟩ := h
  unfold op2 at e
  cases h1 : dv M vx with
  | none => rw [h1] at e; cases e
  | some a =>
    cases h3 : dv M vy with
    | none => rw [h1, h3] at e; cases e
    | some b =>
      rw [h1, h3] at e
      dsimp only at e
      cases h2 : f a b with
      | none => rw [h2] at e; cases e
      | some c =>
        rw [h2] at e
        exact ⟨M, F, α, a, b, c, R, dv_top R rx h1, dv_top R ry h3, h2, end_of (W := W) (σ := σ) ⟨q, e, p⟩⟩
theorem at_opN {f : List PD → Option PD} {xs : List V} {vs : List VL} (R : HR K T H M F α) (rx : RepVs K T F α xs vs) (h : at_ K T W (RepV K T) σ H F α Q (opN f vs M)) : rPN K T f xs H Q := by
  obtain ⟨q, e, p⟩ := h
  unfold opN at e
  cases h1 : dvs M vs with
  | none => rw [h1] at e; cases e
  | some as =>
    rw [h1] at e
    dsimp only at e
    cases h2 : f as with
    | none => rw [h2] at e; cases e
    | some c =>
      rw [h2] at e
      exact ⟨M, F, α, as, c, R, dvs_tops R rx h1, h2, end_of (W := W) (σ := σ) ⟨q, e, p⟩⟩
end
def eVar (i : Nat) : EX := fun ρ M => match ρ[i]? with
  | some (some v) => some (.ok v M)
  | _ => none
def eC (x : PD) : EX := fun _ M => some (.ok (.d x) M)
def eUn (f : PD → Option PD) (g : EX) : EX := fun ρ M => bnd (g ρ M) fun x M1 => op1 f x M1
def eBin (f : PD → PD → Option PD) (g h : EX) : EX := fun ρ M => bnd (g ρ M) fun x M1 => bnd (h ρ M1) fun y M2 => op2 f x y M2
def aNil : AX := fun _ M => some (.ok [] M)
def aCons (g : EX) (gs : AX) : AX := fun ρ M => bnd (g ρ M) fun x M1 => bnd (gs ρ M1) fun xs M2 => some (.ok (x :: xs) M2)
def eApp (f : List VL → MH → Option (Rs VL)) (gs : AX) : EX := fun ρ M => bnd (gs ρ M) fun xs M1 => f xs M1
def asB (M : MH) : VL → Option (Rs Bool)
  | .d (.bl b) => some (.ok b M)
  | _ => none
def truD : PD → Option Bool
  | .non => some false
  | .bl b => some b
  | .int i => some (i != 0)
  | .str x => if x.length ≤ sizeLine then some (x.length != 0) else none
  | .tup ds => some (!ds.isEmpty)
  | .lst ds => some (!ds.isEmpty)
  | .scr ds => some (!ds.isEmpty)
  | _ => none
/-- a test: the value's truth -/
def tTru (g : EX) : TX := fun ρ M => bnd (g ρ M) fun x M1 => match dv M1 x with
  | some d => (match truD d with
    | some b => some (.ok b M1)
    | none => none)
  | none => none
/-- a test: a bool's value -/
def tBl (g : EX) : TX := fun ρ M => bnd (g ρ M) fun x M1 => asB M1 x
def tAn (a b : TX) : TX := fun ρ M => bnd (a ρ M) fun x M1 => if x = true then b ρ M1 else some (.ok false M1)
def tOrr (a b : TX) : TX := fun ρ M => bnd (a ρ M) fun x M1 => if x = true then some (.ok true M1) else b ρ M1
def tNt (a : TX) : TX := fun ρ M => bnd (a ρ M) fun x M1 => some (.ok (!x) M1)
def eIf (t : TX) (a b : EX) : EX := fun ρ M => bnd (t ρ M) fun x M1 => if x = true then a ρ M1 else b ρ M1
/-- and, or, not of bools as values -/
def eAnd (a b : EX) : EX := fun ρ M => bnd (a ρ M) fun x M1 => bnd (asB M1 x) fun c M2 => if c = true then b ρ M2 else some (.ok (.d (.bl false)) M2)
def eOr (a b : EX) : EX := fun ρ M => bnd (a ρ M) fun x M1 => bnd (asB M1 x) fun c M2 => if c = true then some (.ok (.d (.bl true)) M2) else b ρ M2
def eNot (a : EX) : EX := fun ρ M => bnd (a ρ M) fun x M1 => bnd (asB M1 x) fun c M2 => some (.ok (.d (.bl (!c))) M2)
def eChain (f f' : PD → PD → Option PD) (a b c : EX) : EX := fun ρ M => bnd (a ρ M) fun x M1 => bnd (b ρ M1) fun y M2 => bnd (op2 f x y M2) fun z M3 => bnd (asB M3 z) fun k M4 =>
  if k = true then bnd (c ρ M4) fun w M5 => op2 f' y w M5 else some (.ok (.d (.bl false)) M4)
def pdsOf : List VL → Option (List PD)
  | [] => some []
  | .d x :: r => (match pdsOf r with
    | some xs => some (x :: xs)
    | none => none)
  | .r _ :: _ => none
def mkTup (xs : List VL) (M : MH) : Option (Rs VL) := match pdsOf xs with
  | some ds => if ds.length ≤ sizeLine then some (.ok (.d (.tup ds)) M) else none
  | none => none
def mkLst (xs : List VL) (M : MH) : Option (Rs VL) := match pdsOf xs with
  | some ds => if ds.length ≤ sizeLine then some (.ok (.d (.lst ds)) M) else none
  | none => none
def mkMut (xs : List VL) (M : MH) : Option (Rs VL) := match pdsOf xs with
  | some ds => if ds.length ≤ sizeLine then some (.ok (.r M.length) (M ++ [.lst ds])) else none
  | none => none
section
variable {X : Cx} {T : Tb} {W : WX} {g h : EX} {gs : AX} {t u : TX} {e a b c : Expr} {es : List Expr} {pos : Pos}
theorem de_var {i : Nat} {x : Str} (hN : X.N[i]? = some x := by rfl) (hv : Vis X.env.scope x := by first | exact Or.inl rfl | exact Or.inr (Or.inl rfl) | exact Or.inr (Or.inr rfl)) (hd : (x == ("__debug__" : Str)) = false := by decide)
    (hcd : (x == ("__classdict__" : Str)) = false := by decide) : PE X (.Name x pos) (tE X.K T W (eVar i)) := by
  refine peImp (pe_var hN hv hd hcd) fun σ H Q h => ?_
  obtain ⟨ρ, M, F, α, L, R, q, e, p⟩ := h
  unfold eVar at e
  cases h1 : ρ[i]? with
  | none => rw [h1] at e; cases e
  | some o =>
    cases o with
    | none => rw [h1] at e; cases e
    | some vl =>
      rw [h1] at e
      dsimp only at e
      obtain ⟨v, h2, r⟩ := L.2 i vl h1
      exact ⟨v, h2, at_ok (W := W) (σ := σ) R ⟨q, e, p⟩ r⟩
theorem de_cst {x : PD} {v : V} (he : PE X e (tC v)) (hr : ∀ F, Rep X.K T F v x) : PE X e (tE X.K T W (eC x)) := by
  refine peImp he fun σ H Q h => ?_
  obtain ⟨ρ, M, F, α, L, R, h⟩ := rd_to h
  exact at_ok (v := v) R h (hr F)
theorem de_int {i : Int} {j} : PE X (.Constant (.int i) j pos) (tE X.K T W (eC (.int i))) := de_cst pe_int fun _ => .int i
theorem de_bl {i : Bool} {j} : PE X (.Constant (.bool i) j pos) (tE X.K T W (eC (.bl i))) := de_cst pe_bl fun _ => .bl i
theorem de_non {j} : PE X (.Constant .none j pos) (tE X.K T W (eC .non)) := de_cst pe_non fun _ => .non
theorem de_str {i : Str} {j} : PE X (.Constant (.str i) j pos) (tE X.K T W (eC (.str i))) := de_cst pe_str fun _ => .str i
theorem de_bin {op : Operator} {f : PD → PD → Option PD} (ho : OpR X (binaryOp op) (rP2 X.K T f)) (ha : PE X a (tE X.K T W g)) (hb : PE X b (tE X.K T W h)) : PE X (.BinOp a op b pos) (tE X.K T W (eBin f g h)) := by
  refine peImp (pe_op ho ha hb) fun σ H Q hh => ?_
  obtain ⟨ρ, M, F, α, L, R, hh⟩ := rd_to hh
  refine rd_of L R (at_bind hh fun x M1 v H1 F1 α1 s1 R1 r1 h1 => ?_)
  refine rd_of (L.mono s1) R1 (at_bind h1 fun y M2 w H2 F2 α2 s2 R2 r2 h2 => ?_)
  exact at_op2 R2 (r1.mono s2) r2 h2
theorem de_un {op : UnaryOp} {f : PD → Option PD} (ho : UnR X (unaryOp op) (rP1 X.K T f)) (ha : PE X a (tE X.K T W g)) : PE X (.UnaryOp op a pos) (tE X.K T W (eUn f g)) := by
  refine peImp (pe_un ho ha) fun σ H Q hh => ?_
  obtain ⟨ρ, M, F, α, L, R, hh⟩ := rd_to hh
  refine rd_of L R (at_bind hh fun x M1 v H1 F1 α1 s1 R1 r1 h1 => ?_)
  exact at_op1 R1 r1 h1
theorem de_cmp {op : CmpOp} {f : PD → PD → Option PD} (ho : OpR X (compareOp op) (rP2 X.K T f)) (ha : PE X a (tE X.K T W g)) (hb : PE X b (tE X.K T W h)) (hm : behindInMarks op b = false := by first | exact nomark _ | rfl) :
    PE X (.Compare a [op] [b] pos) (tE X.K T W (eBin f g h)) := by
  refine peImp (pe_cmpR ho ha hb hm) fun σ H Q hh => ?_
  obtain ⟨ρ, M, F, α, L, R, hh⟩ := rd_to hh
  refine rd_of L R (at_bind hh fun x M1 v H1 F1 α1 s1 R1 r1 h1 => ?_)
  refine rd_of (L.mono s1) R1 (at_bind h1 fun y M2 w H2 F2 α2 s2 R2 r2 h2 => ?_)
  exact at_op2 R2 (r1.mono s2) r2 h2
theorem asB_ok {K : PySem.W.Frag} {δ ε : Type} {Rl' : Hp → List Addr → ε → δ → Prop} {F H : Hp} {α : List Addr} {M : MH} {σ : L2.St} {Q : ε → Hp → Prop} {x : V} {vx : VL} {f : Bool → MH → Option (Rs δ)} (r : RepV K T F α x vx)
    (h : at_ K T W Rl' σ H F α Q (bnd (asB M vx) f)) : ∃ k, x = .bl k ∧ at_ K T W Rl' σ H F α Q (f k M) := by
  cases vx with
  | r k =>
    obtain ⟨q, e, _⟩ := h
    cases e
  | d y =>
    cases y with
    | bl k =>
      cases r
      exact ⟨k, rfl, h⟩
    | _ =>
      obtain ⟨q, e, _⟩ := h
      cases e
theorem asB_end {K : PySem.W.Frag} {F H : Hp} {α : List Addr} {M : MH} {σ : L2.St} {Q : Bool → Hp → Prop} {x : V} {vx : VL} (R : HR K T H M F α) (r : RepV K T F α x vx)
    (h : at_ K T W (fun _ _ b c => b = c) σ H F α Q (asB M vx)) : ∃ k, x = .bl k ∧ Q k H := by
  cases vx with
  | r k =>
    obtain ⟨q, e, _⟩ := h
    cases e
  | d y =>
    cases y with
    | bl k =>
      cases r
      exact ⟨k, rfl, at_ok R h rfl⟩
    | _ =>
      obtain ⟨q, e, _⟩ := h
      cases e
theorem dt_tru (ha : PE X a (tE X.K T W g)) (he : ∀ whole, isTrue a X.env whole = (do let v ← whole; standAt a.pos; holding [v] (truthy v)) := by intro _; rfl) : PT X a (tT X.K T W (tTru g)) := by
  refine ptImp (pt_truth ha he) fun σ H Q hh => ?_
  obtain ⟨ρ, M, F, α, L, R, hh⟩ := rd_to hh
  refine rd_of L R (at_bind hh fun x M1 v H1 F1 α1 s1 R1 r1 h1 => ?_)
  obtain ⟨q, e, p⟩ := h1
  cases h2 : dv M1 x with
  | none => simp only [h2] at e; cases e
  | some d =>
    simp only [h2] at e
    cases h3 : truD d with
    | none => simp only [h3] at e; cases e
    | some k =>
      simp only [h3] at e
      have fin : Q k H1 := at_ok (W := W) (σ := σ) (v := k) R1 ⟨q, e, p⟩ rfl
      have tp := dv_top R1 r1 h2
      refine ⟨k, ?_, fin⟩
      cases d with
      | non =>
        obtain rfl := tp.non
        exact (Option.some.inj h3).symm
      | bl _ =>
        obtain rfl := tp.bl
        exact (Option.some.inj h3).symm
      | int _ =>
        obtain rfl := tp.int
        exact (Option.some.inj h3).symm
      | str y =>
        obtain rfl := tp.str
        have h3' : (if y.length ≤ sizeLine then some (y.length != 0) else none) = some k := h3
        by_cases hl : y.length ≤ sizeLine
        · rw [if_pos hl] at h3'
          refine ⟨hl, ?_⟩
          rw [← Option.some.inj h3']
          cases y.length <;> rfl
        · rw [if_neg hl] at h3'
          cases h3'
      | tup ds =>
        obtain ⟨p', xs, rfl, q1, _, q2⟩ := tp.tup R1
        refine .inr (.inl ⟨xs, q1, ?_⟩)
        rw [← Option.some.inj h3]
        cases q2 <;> rfl
      | lst ds =>
        obtain ⟨p', xs, rfl, q1, q2⟩ := tp.lst R1
        refine .inl ⟨xs, SqL.of q1, ?_⟩
        rw [← Option.some.inj h3]
        cases q2 <;> rfl
      | scr ds =>
        obtain ⟨p', xs, rfl, q1, q2⟩ := tp.scr R1
        refine .inl ⟨xs, q1, ?_⟩
        rw [← Option.some.inj h3]
        cases q2 <;> rfl
      | dct _ _ => cases h3
      | ins _ _ => cases h3
      | unk => cases h3
      | exc _ _ => cases h3
theorem dt_cmp {op : CmpOp} {f : PD → PD → Option PD} (ho : OpR X (compareOp op) (rP2 X.K T f)) (ha : PE X a (tE X.K T W g)) (hb : PE X b (tE X.K T W h)) (hm : behindInMarks op b = false := by first | exact nomark _ | rfl) :
    PT X (.Compare a [op] [b] pos) (tT X.K T W (tBl (eBin f g h))) := by
  refine ptImp (pt_cmpR ho ha hb hm) fun σ H Q hh => ?_
  obtain ⟨ρ, M, F, α, L, R, hh⟩ := rd_to hh
  obtain ⟨q, e, p⟩ := hh
  have hh : at_ X.K T W (fun _ _ b c => b = c) σ H F α Q (bnd (g ρ M) fun x M1 => bnd (h ρ M1) fun y M2 => bnd (op2 f x y M2) fun z M3 => asB M3 z) := by
    refine ⟨q, ?_, p⟩
    rw [← e]
    unfold tBl eBin
    cases g ρ M with
    | none => rfl
    | some z =>
      cases z with
      | ex _ _ _ => rfl
      | ok x M1 =>
        simp only [bnd_ok]
        cases h ρ M1 with
        | none => rfl
        | some z =>
          cases z with
          | ex _ _ _ => rfl
          | ok y M2 => rfl
  refine rd_of L R (at_bind hh fun x M1 v H1 F1 α1 s1 R1 r1 h1 => ?_)
  refine rd_of (L.mono s1) R1 (at_bind h1 fun y M2 w H2 F2 α2 s2 R2 r2 h2 => ?_)
  refine at_op2 (W := W) (σ := σ) R2 (r1.mono s2) r2 (at_bind h2 fun z M3 w3 H3 F3 α3 s3 R3 r3 h3 => ?_)
  exact asB_end R3 r3 h3
theorem dt_not (ha : PT X a (tT X.K T W t)) : PT X (.UnaryOp .Not a pos) (tT X.K T W (tNt t)) := by
  refine ptImp (pt_not ha) fun σ H Q hh => ?_
  obtain ⟨ρ, M, F, α, L, R, hh⟩ := rd_to hh
  refine rd_of L R (at_bind hh fun x M1 v H1 F1 α1 s1 R1 r1 h1 => ?_)
  subst r1
  exact at_ok R1 h1 rfl
theorem dw_and1 (ha : PT X a (tT X.K T W t)) : PW X (.BoolOp .And [a] pos) (tT X.K T W t) := pw_and1 ha
theorem dw_or1 (ha : PT X a (tT X.K T W t)) : PW X (.BoolOp .Or [a] pos) (tT X.K T W t) := pw_or1 ha
theorem dw_and (ha : PT X a (tT X.K T W t)) (hb : PW X (.BoolOp .And (b :: es) pos) (tT X.K T W u)) : PW X (.BoolOp .And (a :: b :: es) pos) (tT X.K T W (tAn t u)) := by
  refine pwImp (pw_and ha hb) fun σ H Q hh => ?_
  obtain ⟨ρ, M, F, α, L, R, hh⟩ := rd_to hh
  refine rd_of L R (at_bind hh fun x M1 v H1 F1 α1 s1 R1 r1 h1 => ?_)
  subst r1
  cases v with
  | true => exact rd_of (L.mono s1) R1 h1
  | false => exact at_ok R1 h1 rfl
theorem dw_or (ha : PT X a (tT X.K T W t)) (hb : PW X (.BoolOp .Or (b :: es) pos) (tT X.K T W u)) : PW X (.BoolOp .Or (a :: b :: es) pos) (tT X.K T W (tOrr t u)) := by
  refine pwImp (pw_or ha hb) fun σ H Q hh => ?_
  obtain ⟨ρ, M, F, α, L, R, hh⟩ := rd_to hh
  refine rd_of L R (at_bind hh fun x M1 v H1 F1 α1 s1 R1 r1 h1 => ?_)
  subst r1
  cases v with
  | true => exact at_ok R1 h1 rfl
  | false => exact rd_of (L.mono s1) R1 h1
theorem de_if (hc : PT X c (tT X.K T W t)) (ha : PE X a (tE X.K T W g)) (hb : PE X b (tE X.K T W h)) : PE X (.IfExp c a b pos) (tE X.K T W (eIf t g h)) := by
  refine peImp (pe_ifExp hc ha hb) fun σ H Q hh => ?_
  obtain ⟨ρ, M, F, α, L, R, hh⟩ := rd_to hh
  refine rd_of L R (at_bind hh fun x M1 v H1 F1 α1 s1 R1 r1 h1 => ?_)
  subst r1
  cases v with
  | true => exact rd_of (L.mono s1) R1 h1
  | false => exact rd_of (L.mono s1) R1 h1
theorem de_one {op} (ha : PE X a (tE X.K T W g)) : PE X (.BoolOp op [a] pos) (tE X.K T W g) := pe_one ha
theorem de_and (ha : PE X a (tE X.K T W g)) (hb : PE X (.BoolOp .And (b :: es) pos) (tE X.K T W h)) : PE X (.BoolOp .And (a :: b :: es) pos) (tE X.K T W (eAnd g h)) := by
  refine peImp (pe_and ha hb) fun σ H Q hh => ?_
  obtain ⟨ρ, M, F, α, L, R, hh⟩ := rd_to hh
  refine rd_of L R (at_bind hh fun x M1 v H1 F1 α1 s1 R1 r1 h1 => ?_)
  obtain ⟨k, rfl, h2⟩ := asB_ok r1 h1
  refine ⟨k, rfl, ?_⟩
  cases k with
  | true => exact rd_of (L.mono s1) R1 h2
  | false => exact at_ok (v := V.bl false) R1 h2 (.bl false)
theorem de_not (ha : PE X a (tE X.K T W g)) : PE X (.UnaryOp .Not a pos) (tE X.K T W (eNot g)) := by
  refine peImp (pe_not ha) fun σ H Q hh => ?_
  obtain ⟨ρ, M, F, α, L, R, hh⟩ := rd_to hh
  refine rd_of L R (at_bind hh fun x M1 v H1 F1 α1 s1 R1 r1 h1 => ?_)
  obtain ⟨k, rfl, h2⟩ := asB_ok r1 h1
  exact ⟨k, rfl, at_ok (v := V.bl (!k)) R1 h2 (.bl _)⟩
theorem da_nil : PA X [] (tA X.K T W aNil) := by
  refine paImp pa_nil fun σ H Q hh => ?_
  obtain ⟨ρ, M, F, α, L, R, hh⟩ := rd_to hh
  exact at_ok (v := []) R hh .nil
theorem da_cons (ha : PE X e (tE X.K T W g)) (hr : PA X es (tA X.K T W gs)) (hs : starEach (e :: es) X.env = (false, eval e X.env) :: starEach es X.env := by rfl) : PA X (e :: es) (tA X.K T W (aCons g gs)) := by
  refine paImp (pa_cons ha hr hs) fun σ H Q hh => ?_
  obtain ⟨ρ, M, F, α, L, R, hh⟩ := rd_to hh
  refine rd_of L R (at_bind hh fun x M1 v H1 F1 α1 s1 R1 r1 h1 => ?_)
  refine rd_of (L.mono s1) R1 (at_bind h1 fun xs M2 vs H2 F2 α2 s2 R2 r2 h2 => ?_)
  exact at_ok (v := v :: vs) R2 h2 (.cons (r1.mono s2) r2)
theorem pds_reps {K : PySem.W.Frag} {F : Hp} {α : List Addr} : ∀ {vs : List V} {xs : List VL} {ds : List PD}, RepVs K T F α vs xs → pdsOf xs = some ds → Reps K T F vs ds
  | _, [], ds, .nil, e => by
    have q : [] = ds := Option.some.inj e
    subst q
    exact .nil
  | _, .d x :: xs, ds, .cons r t, e => by
    unfold pdsOf at e
    cases h2 : pdsOf xs with
    | none => rw [h2] at e; cases e
    | some as =>
      rw [h2] at e
      dsimp only at e
      have q : x :: as = ds := Option.some.inj e
      subst q
      exact .cons r (pds_reps t h2)
  | _, .r _ :: xs, ds, .cons r t, e => by cases e
theorem de_tup {x1} (ha : PA X es (tA X.K T W gs)) : PE X (.Tuple es x1 pos) (tE X.K T W (eApp mkTup gs)) := by
  refine peImp (pe_tup ha) fun σ H Q hh => ?_
  obtain ⟨ρ, M, F, α, L, R, hh⟩ := rd_to hh
  refine rd_of L R (at_bind hh fun xs M1 vs H1 F1 α1 s1 R1 r1 h1 => ?_)
  obtain ⟨q, e, p⟩ := h1
  unfold mkTup at e
  cases h2 : pdsOf xs with
  | none => rw [h2] at e; cases e
  | some ds =>
    rw [h2] at e
    dsimp only at e
    have rr := pds_reps r1 h2
    by_cases hl : ds.length ≤ sizeLine
    · simp only [if_pos hl] at e
      exact ⟨by rw [rr.length]; exact hl, fun p' hp => EndD.tup R1 (end_of (W := W) (σ := σ) ⟨q, e, p⟩) rr hp⟩
    · simp only [if_neg hl] at e
      cases e
theorem de_lst (ha : PA X es (tA X.K T W gs)) : PE X (.List es pos) (tE X.K T W (eApp mkLst gs)) := by
  refine peImp (pe_lst ha) fun σ H Q hh => ?_
  obtain ⟨ρ, M, F, α, L, R, hh⟩ := rd_to hh
  refine rd_of L R (at_bind hh fun xs M1 vs H1 F1 α1 s1 R1 r1 h1 => ?_)
  obtain ⟨q, e, p⟩ := h1
  unfold mkLst at e
  cases h2 : pdsOf xs with
  | none => rw [h2] at e; cases e
  | some ds =>
    rw [h2] at e
    dsimp only at e
    have rr := pds_reps r1 h2
    by_cases hl : ds.length ≤ sizeLine
    · simp only [if_pos hl] at e
      exact ⟨by rw [rr.length]; exact hl, fun p' hp => EndD.lst R1 (end_of (W := W) (σ := σ) ⟨q, e, p⟩) rr hp⟩
    · simp only [if_neg hl] at e
      cases e
theorem de_mut (ha : PA X es (tA X.K T W gs)) : PE X (.List es pos) (tE X.K T W (eApp mkMut gs)) := by
  refine peImp (pe_lst ha) fun σ H Q hh => ?_
  obtain ⟨ρ, M, F, α, L, R, hh⟩ := rd_to hh
  refine rd_of L R (at_bind hh fun xs M1 vs H1 F1 α1 s1 R1 r1 h1 => ?_)
  obtain ⟨q, e, p⟩ := h1
  unfold mkMut at e
  cases h2 : pdsOf xs with
  | none => rw [h2] at e; cases e
  | some ds =>
    rw [h2] at e
    dsimp only at e
    have rr := pds_reps r1 h2
    by_cases hl : ds.length ≤ sizeLine
    · simp only [if_pos hl] at e
      refine ⟨by rw [rr.length]; exact hl, fun p' hp => ?_⟩
      refine at_okS (W := W) (σ := σ) (v := V.ref p') (step_mut (o := .lst vs) R1 hp) (HR.mut (mo := MO.lst ds) R1 hp ⟨vs, upd_same, rr⟩) ⟨q, e, p⟩ ⟨p', ?_, rfl⟩
      rw [List.getElem?_append_right (by rw [R1.len]; exact Nat.le_refl _), R1.len]
      simp
    · simp only [if_neg hl] at e
      cases e
/-- built-in functions, types -/
theorem de_bi {id : String} {x : Str} {p : Pos} {f : List PD → Option PD} (hc : CallR X (.builtin id) (rPN X.K T f)) (hm : X.mg x = none) (hv : bootBuiltins x = some (.builtin id)) (ha : PA X (e :: es) (tA X.K T W gs)) (hg : Gl X x := by rfl) (hn : x ≠ "__name__" := by decide)
    (hdb : (x == ("__debug__" : Str)) = false := by decide) (he : starEach (e :: es) X.env = (false, eval e X.env) :: starEach es X.env := by rfl) (hpl : (backTo pos (starEach es X.env)).any (·.1) = false := by rfl) : PE X (.Call (.Name x p) (e :: es) [] pos) (tE X.K T W (eApp (opN f) gs)) := by
  refine peImp (pe_callB hc hg hm hv ha hn hdb he hpl) fun σ H Q hh => ?_
  obtain ⟨ρ, M, F, α, L, R, hh⟩ := rd_to hh
  refine rd_of L R (at_bind hh fun xs M1 vs H1 F1 α1 s1 R1 r1 h1 => ?_)
  exact at_opN R1 r1 h1
theorem de_ty {id : String} {x : Str} {p : Pos} {f : List PD → Option PD} (hc : CallR X (.type id) (rPN X.K T f)) (hm : X.mg x = none) (hv : bootBuiltins x = some (.type id)) (ha : PA X (e :: es) (tA X.K T W gs)) (hg : Gl X x := by rfl) (hn : x ≠ "__name__" := by decide)
    (hdb : (x == ("__debug__" : Str)) = false := by decide) (he : starEach (e :: es) X.env = (false, eval e X.env) :: starEach es X.env := by rfl) (hpl : (backTo pos (starEach es X.env)).any (·.1) = false := by rfl) : PE X (.Call (.Name x p) (e :: es) [] pos) (tE X.K T W (eApp (opN f) gs)) := by
  refine peImp (pe_callTy hc hg hm hv ha hn hdb he hpl) fun σ H Q hh => ?_
  obtain ⟨ρ, M, F, α, L, R, hh⟩ := rd_to hh
  refine rd_of L R (at_bind hh fun xs M1 vs H1 F1 α1 s1 R1 r1 h1 => ?_)
  exact at_opN R1 r1 h1
/-- item, o[i] -/
theorem de_idx {f : PD → PD → Option PD} (hr : IxR X (rP2 X.K T f)) (ha : PE X a (tE X.K T W g)) (hb : PE X b (tE X.K T W h)) (hs : PlainIx b := by exact fun _ _ => rfl) : PE X (.Subscript a b pos) (tE X.K T W (eBin f g h)) := by
  refine peImp (pe_ix hr ha hb hs) fun σ H Q hh => ?_
  obtain ⟨ρ, M, F, α, L, R, hh⟩ := rd_to hh
  refine rd_of L R (at_bind hh fun x M1 v H1 F1 α1 s1 R1 r1 h1 => ?_)
  refine rd_of (L.mono s1) R1 (at_bind h1 fun y M2 w H2 F2 α2 s2 R2 r2 h2 => ?_)
  exact at_op2 R2 (r1.mono s2) r2 h2
end
abbrev Fn := List VL → MH → Option (Rs VL)
section
variable (K : PySem.W.Frag) (T : Tb)
def fnD (f : Fn) : Sp := fun vs H Q E => ∃ M F α xs, HR K T H M F α ∧ RepVs K T F α vs xs ∧ at_ K T (fun c d _ H' => E c d H') (RepV K T) [] H F α Q (f xs M)
end
section
variable {X : Cx} {T : Tb} {W : WX} {gs : AX} {e : Expr} {es : List Expr} {pos : Pos}
theorem at_wish {K : PySem.W.Frag} {β γ : Type} {Rl : Hp → List Addr → γ → β → Prop} {W W' : WX} {σ σ' : L2.St} {H F : Hp} {α : List Addr} {Q : γ → Hp → Prop} {r : Option (Rs β)} (h : at_ K T W Rl σ H F α Q r) (hw : ∀ c d H', W c d σ H' → W' c d σ' H') : at_ K T W' Rl σ' H F α Q r := by
  obtain ⟨q, e, p⟩ := h
  refine ⟨q, e, ?_⟩
  cases q with
  | ok b M => exact p
  | ex c xs M => exact fun dd H' F' α' R s x => hw _ _ _ (p dd H' F' α' R s x)
theorem de_call {k : Nat} {f : Addr} {fd : FuncData} {ps : List Str} {fn : Fn} {x : Str} {p : Pos} (F : FnOk X.prog X.w X.K X.mg X.base (L2N.CX X.prog X.w) k f fd ps (fnD X.K T fn)) (hr : Room k X.A) (hm : X.mg x = some (.ref f)) (hk : PySem.W.keepIn X.K (.ref f) = true)
    (hb : Binds X.K fd ps []) (tk : L2N.Takes X W) (ha : PA X (e :: es) (tA X.K T W gs)) (hg : Gl X x := by rfl) (hdb : (x == ("__debug__" : Str)) = false := by decide) (he : starEach (e :: es) X.env = (false, eval e X.env) :: starEach es X.env := by rfl)
    (hpl : (backTo pos (starEach es X.env)).any (·.1) = false := by rfl) : PE X (.Call (.Name x p) (e :: es) [] pos) (tE X.K T W (eApp fn gs)) := by
  refine peImp (pe_callSD (ds := []) (dvs := []) F hr hg hm hk hb .nil (fun σ => L2N.passAt tk σ) ha hdb he hpl) fun σ H Q hh => ?_
  obtain ⟨ρ, M, F, α, L, R, hh⟩ := rd_to hh
  refine rd_of L R (at_bind hh fun xs M1 vs H1 F1 α1 s1 R1 r1 h1 => ?_)
  rw [List.append_nil]
  exact ⟨M1, F1, α1, xs, R1, r1, at_wish h1 fun _ _ _ z => z⟩
end
end Mi
namespace Mi
open PySem PySem.Spec PyProof.Rows L2
inductive Fl where
  | nx | bk | ct | rt (v : VL) | ex (c : Nat) (xs : List PD)
abbrev SX := EV → MH → Option (Fl × EV × MH)
section
variable (K : PySem.W.Frag) (T : Tb) (W : WX)
def poS (D : Ends) (H F : Hp) (α : List Addr) : Fl × EV × MH → Prop
  | (.nx, ρ', M') => ∀ σ' H' F' α', LR K T F' α' σ' ρ' → HR K T H' M' F' α' → Step H F α H' F' α' → D.nx σ' H'
  | (.bk, ρ', M') => ∀ σ' H' F' α', LR K T F' α' σ' ρ' → HR K T H' M' F' α' → Step H F α H' F' α' → D.bk σ' H'
  | (.ct, ρ', M') => ∀ σ' H' F' α', LR K T F' α' σ' ρ' → HR K T H' M' F' α' → Step H F α H' F' α' → D.ct σ' H'
  | (.rt v, _, M') => ∀ u H' F' α', HR K T H' M' F' α' → Step H F α H' F' α' → RepV K T F' α' u v → D.rt u H'
  | (.ex c xs, ρ', M') => ∀ dd σ' H' F' α', LR K T F' α' σ' ρ' → HR K T H' M' F' α' → Step H F α H' F' α' → ExAt K T F' c xs dd → W (.ref (T.ca c)) dd σ' H'
def atS (D : Ends) (H F : Hp) (α : List Addr) (r : Option (Fl × EV × MH)) : Prop := ∃ z, r = some z ∧ poS K T W D H F α z
def tS (g : SX) : TS := fun D σ H => ∃ ρ M F α, LR K T F α σ ρ ∧ HR K T H M F α ∧ atS K T W D H F α (g ρ M)
def gD (tg : VL → EV → MH → Option (EV × MH)) : TG := fun v σ H Q => ∃ ρ M F α vl, LR K T F α σ ρ ∧ HR K T H M F α ∧ RepV K T F α v vl ∧ ∃ ρ' M', tg vl ρ M = some (ρ', M') ∧ ∀ σ' H' F' α', LR K T F' α' σ' ρ' → HR K T H' M' F' α' → Step H F α H' F' α' → Q σ' H'
/-- what is walked, item by item -/
def Jok (J : It) (F1 : Hp) (ds : List PD) : Prop := ∀ H' M' F' α', Same F1 F' → HR K T H' M' F' α' → ∀ i : Nat, (i < ds.length → J.go i H' ∧ ∀ x H2, J.yld i H' x H2 → ∃ F2, HR K T H2 M' F2 α' ∧ Step H' F' α' H2 F2 α' ∧ ∃ d, ds[i]? = some d ∧ Rep K T F2 x d) ∧ (ds.length ≤ i → J.stop i H')
def iD (it : EV → MH → Option (Rs (List PD))) : TI := fun σ H R => rd K T W (fun F _ J ds => Jok K T J F ds) it σ H R
end
abbrev TGX := VL → EV → MH → Option (EV × MH)
abbrev IX := EV → MH → Option (Rs (List PD))
def bndS {β : Type} (x : Option (Rs β)) (ρ : EV) (f : β → MH → Option (Fl × EV × MH)) : Option (Fl × EV × MH) := match x with
  | none => none
  | some (.ok b M) => f b M
  | some (.ex c xs M) => some (.ex c xs, ρ, M)
section
variable {K : PySem.W.Frag} {T : Tb} {W : WX} {H F H1 F1 : Hp} {α α1 : List Addr} {D : Ends} {σ : L2.St} {ρ : EV} {M : MH}
theorem poS_step {z : Fl × EV × MH} (s : Step H F α H1 F1 α1) (h : poS K T W D H F α z) : poS K T W D H1 F1 α1 z := by
  obtain ⟨fl, ρ', M'⟩ := z
  cases fl with
  | nx => exact fun σ' H' F' α' L R s' => h σ' H' F' α' L R (s.trans s')
  | bk => exact fun σ' H' F' α' L R s' => h σ' H' F' α' L R (s.trans s')
  | ct => exact fun σ' H' F' α' L R s' => h σ' H' F' α' L R (s.trans s')
  | rt v => exact fun u H' F' α' R s' => h u H' F' α' R (s.trans s')
  | ex c xs => exact fun dd σ' H' F' α' L R s' => h dd σ' H' F' α' L R (s.trans s')
theorem atS_step {r : Option (Fl × EV × MH)} (s : Step H F α H1 F1 α1) (h : atS K T W D H F α r) : atS K T W D H1 F1 α1 r := let ⟨z, e, p⟩ := h; ⟨z, e, poS_step s p⟩
theorem tS_of {g : SX} (L : LR K T F α σ ρ) (R : HR K T H M F α) (h : atS K T W D H F α (g ρ M)) : tS K T W g D σ H := ⟨ρ, M, F, α, L, R, h⟩
theorem tS_to {g : SX} (h : tS K T W g D σ H) : ∃ ρ M F α, LR K T F α σ ρ ∧ HR K T H M F α ∧ atS K T W D H F α (g ρ M) := h
theorem atS_bind {β γ : Type} {Rl : Hp → List Addr → γ → β → Prop} {g : Option (Rs β)} {f : β → MH → Option (Fl × EV × MH)} {k : γ → Hp → Prop} (L : LR K T F α σ ρ) (h : atS K T W D H F α (bndS g ρ f))
    (hk : ∀ b M1 v H1 F1 α1, Step H F α H1 F1 α1 → HR K T H1 M1 F1 α1 → Rl F1 α1 v b → atS K T W D H1 F1 α1 (f b M1) → k v H1) : at_ K T W Rl σ H F α k g := by
  obtain ⟨q, e, p⟩ := h
  cases g with
  | none => cases e
  | some z =>
    refine ⟨z, rfl, ?_⟩
    cases z with
    | ok b M1 => exact fun v H' F' α' R' s rl => hk b M1 v H' F' α' s R' rl ⟨q, e, poS_step s p⟩
    | ex c xs M1 =>
      have e2 : (Fl.ex c xs, ρ, M1) = q := Option.some.inj e
      subst e2
      exact fun dd H' F' α' R' s x => p dd σ H' F' α' (L.mono s) R' s x
theorem atS_nx {ρ' : EV} {M' : MH} (L : LR K T F α σ ρ') (R : HR K T H M' F α) (h : atS K T W D H F α (some (.nx, ρ', M'))) : D.nx σ H := by
  obtain ⟨q, e, p⟩ := h
  have e2 := Option.some.inj e
  subst e2
  exact p σ H F α L R Step.refl
end
def sNx : SX := fun ρ M => some (.nx, ρ, M)
def sSeq (a b : SX) : SX := fun ρ M => match a ρ M with
  | some (.nx, ρ1, M1) => b ρ1 M1
  | r => r
def sAsg (i : Nat) (g : EX) : SX := fun ρ M => bndS (g ρ M) ρ fun v M1 => some (.nx, ρ.set i (some v), M1)
def sAsgG (tg : TGX) (g : EX) : SX := fun ρ M => bndS (g ρ M) ρ fun v M1 => match tg v ρ M1 with
  | some (ρ', M') => some (.nx, ρ', M')
  | none => none
def sExp (g : EX) : SX := fun ρ M => bndS (g ρ M) ρ fun _ M1 => some (.nx, ρ, M1)
def sRet (g : EX) : SX := fun ρ M => bndS (g ρ M) ρ fun v M1 => some (.rt v, ρ, M1)
def sRetN : SX := fun ρ M => some (.rt (.d .non), ρ, M)
def sBrk : SX := fun ρ M => some (.bk, ρ, M)
def sCont : SX := fun ρ M => some (.ct, ρ, M)
def sIf (t : TX) (a b : SX) : SX := fun ρ M => bndS (t ρ M) ρ fun c M1 => if c = true then a ρ M1 else b ρ M1
def sNone : SX := fun _ _ => none
def sPar2 (i j : Nat) (a : AX) : SX := fun ρ M => bndS (a ρ M) ρ fun vs M1 => match vs with
  | [u, v] => some (.nx, (ρ.set i (some u)).set j (some v), M1)
  | _ => none
def sPar3 (i j l : Nat) (a : AX) : SX := fun ρ M => bndS (a ρ M) ρ fun vs M1 => match vs with
  | [u, v, w] => some (.nx, ((ρ.set i (some u)).set j (some v)).set l (some w), M1)
  | _ => none
/-- what a turn's end does -/
def turnE (r : Option (Fl × EV × MH)) (next : EV → MH → Option (Fl × EV × MH)) : Option (Fl × EV × MH) := match r with
  | some (.nx, ρ, M) => next ρ M
  | some (.ct, ρ, M) => next ρ M
  | some (.bk, ρ, M) => some (.nx, ρ, M)
  | r => r
def whileN : Nat → TX → SX → SX
  | 0, _, _ => fun _ _ => none
  | n + 1, t, b => fun ρ M => bndS (t ρ M) ρ fun c M1 => if c = true then turnE (b ρ M1) (whileN n t b) else some (.nx, ρ, M1)
def sWhile (t : TX) (b : SX) : SX := whileN 1152921504606846976 t b
def forL (tg : TGX) (b : SX) : List PD → SX
  | [] => sNx
  | d :: ds => fun ρ M => match tg (.d d) ρ M with
    | none => none
    | some (ρ1, M1) => turnE (b ρ1 M1) (forL tg b ds)
def sFor (tg : TGX) (it : IX) (b : SX) : SX := fun ρ M => bndS (it ρ M) ρ fun ds M1 => forL tg b ds ρ M1
def gNm (i : Nat) : TGX := fun v ρ M => some (ρ.set i (some v), M)
def gsNil : List PD → EV → MH → Option (EV × MH)
  | [], ρ, M => some (ρ, M)
  | _ :: _, _, _ => none
def gsCons (g : TGX) (r : List PD → EV → MH → Option (EV × MH)) : List PD → EV → MH → Option (EV × MH)
  | [], _, _ => none
  | d :: ds, ρ, M => match g (.d d) ρ M with
    | some (ρ1, M1) => r ds ρ1 M1
    | none => none
def gTp (r : List PD → EV → MH → Option (EV × MH)) : TGX
  | .d (.tup ds), ρ, M => r ds ρ M
  | _, _, _ => none
section
variable {X : Cx} {T : Tb} {W : WX} {g : EX} {gs : AX} {t : TX} {a b : SX} {e c : Expr} {es : List Expr} {st : Stmt} {sts p q : List Stmt} {pos : Pos}
theorem ds_nil : PSs X [] (tS X.K T W sNx) := by
  refine pssImp pss_nil fun D σ H h => ?_
  obtain ⟨ρ, M, F, α, L, R, h⟩ := tS_to h
  exact atS_nx L R h
theorem seq_at {K : PySem.W.Frag} {D : Ends} {σ : L2.St} {H F : Hp} {α : List Addr} {ρ : EV} {M : MH} (h : atS K T W D H F α (sSeq a b ρ M)) : atS K T W { D with nx := fun σ' H' => tS K T W b D σ' H' } H F α (a ρ M) := by
  obtain ⟨z, e, po⟩ := h
  unfold sSeq at e
  cases h1 : a ρ M with
  | none => rw [h1] at e; cases e
  | some r =>
    obtain ⟨fl, ρ1, M1⟩ := r
    refine ⟨_, rfl, ?_⟩
    cases fl with
    | nx =>
      rw [h1] at e
      exact fun σ' H' F' α' L R s => tS_of L R ⟨z, e, poS_step s po⟩
    | bk =>
      rw [h1] at e
      have e2 := Option.some.inj e
      subst e2
      exact po
    | ct =>
      rw [h1] at e
      have e2 := Option.some.inj e
      subst e2
      exact po
    | rt v =>
      rw [h1] at e
      have e2 := Option.some.inj e
      subst e2
      exact po
    | ex c xs =>
      rw [h1] at e
      have e2 := Option.some.inj e
      subst e2
      exact po
theorem ds_cons (h1 : PS X st (tS X.K T W a)) (h2 : PSs X sts (tS X.K T W b)) : PSs X (st :: sts) (tS X.K T W (sSeq a b)) := by
  refine pssImp (pss_cons h1 h2) fun D σ H h => ?_
  obtain ⟨ρ, M, F, α, L, R, h⟩ := tS_to h
  exact tS_of (D := { D with nx := fun σ' H' => tS X.K T W b D σ' H' }) L R (seq_at (σ := σ) h)
theorem ds_one (h1 : PS X st (tS X.K T W a)) : PSs X [st] (tS X.K T W a) := pss_one h1
theorem ds_set {i : Nat} {x : Str} {pos' : Pos} (he : PE X e (tE X.K T W g)) (hN : X.N.Nodup) (hi : X.N[i]? = some x := by rfl) (hx : Loc X.env.scope x := by first | exact Or.inl rfl | exact Or.inr rfl) (hs : swapsWith e (some (.Name x pos')) pos.line X.env = pure false := by rfl)
    (hf : X.fn x = true ∨ X.env.scope.names.lookup x = some .local := by first | exact .inl rfl | exact .inr rfl | assumption) : PS X (.Assign [.Name x pos'] e pos) (tS X.K T W (sAsg i g)) := by
  refine psImp (ps_set (i := i) hN hi hx he hs hf) fun D σ H h => ?_
  obtain ⟨ρ, M, F, α, L, R, h⟩ := tS_to h
  refine rd_of L R (atS_bind L h fun v M1 u H1 F1 α1 s R1 r h => ?_)
  exact atS_nx ((L.mono s).set r) R1 h
theorem ds_asg {tg : Expr} {gg : TGX} (he : PE X e (tE X.K T W g)) (hg : PG X tg (gD X.K T gg)) (hs : swapsWithSole [tg] e pos.line X.env = pure false := by rfl) (hw : swappedStores [tg] e X.env = pure none := by rfl)
    (h1 : (assignEach [tg] X.env).map (·.2) = [assign tg X.env] := by rfl) : PS X (.Assign [tg] e pos) (tS X.K T W (sAsgG gg g)) := by
  refine psImp (ps_asg he hg hs hw h1) fun D σ H h => ?_
  obtain ⟨ρ, M, F, α, L, R, h⟩ := tS_to h
  refine rd_of L R (atS_bind L h fun v M1 u H1 F1 α1 s R1 r h => ?_)
  obtain ⟨z, e, po⟩ := h
  cases h2 : gg v ρ M1 with
  | none => rw [h2] at e; cases e
  | some r2 =>
    obtain ⟨ρ', M'⟩ := r2
    rw [h2] at e
    have e2 : (Fl.nx, ρ', M') = z := Option.some.inj e
    subst e2
    exact ⟨ρ, M1, F1, α1, v, L.mono s, R1, r, ρ', M', h2, fun σ' H' F' α' L' R' s' => po σ' H' F' α' L' R' s'⟩
theorem ds_exp (he : PE X e (tE X.K T W g)) (hs : swapsWith e none pos.line X.env = pure false := by rfl) : PS X (.Expr e pos) (tS X.K T W (sExp g)) := by
  refine psImp (ps_expr he hs) fun D σ H h => ?_
  obtain ⟨ρ, M, F, α, L, R, h⟩ := tS_to h
  refine rd_of L R (atS_bind L h fun v M1 u H1 F1 α1 s R1 r h => ?_)
  exact atS_nx (L.mono s) R1 h
theorem ds_ret (he : PE X e (tE X.K T W g)) : PS X (.Return (some e) pos) (tS X.K T W (sRet g)) := by
  refine psImp (ps_ret he) fun D σ H h => ?_
  obtain ⟨ρ, M, F, α, L, R, h⟩ := tS_to h
  refine rd_of L R (atS_bind L h fun v M1 u H1 F1 α1 s R1 r h => ?_)
  obtain ⟨z, e, po⟩ := h
  have e2 := Option.some.inj e
  subst e2
  exact po u H1 F1 α1 R1 Step.refl r
theorem ds_brk : PS X (.Break pos) (tS X.K T W sBrk) := by
  refine psImp ps_break fun D σ H h => ?_
  obtain ⟨ρ, M, F, α, L, R, z, e, po⟩ := tS_to h
  have e2 := Option.some.inj e
  subst e2
  exact po σ H F α L R Step.refl
theorem ds_if (hc : PT X c (tT X.K T W t)) (ha : PSs X p (tS X.K T W a)) (hb : PSs X q (tS X.K T W b)) : PS X (.If c p q pos) (tS X.K T W (sIf t a b)) := by
  refine psImp (ps_if hc ha hb) fun D σ H h => ?_
  obtain ⟨ρ, M, F, α, L, R, h⟩ := tS_to h
  refine rd_of L R (atS_bind L h fun v M1 u H1 F1 α1 s R1 r h => ?_)
  subst r
  cases u with
  | true => exact tS_of (L.mono s) R1 h
  | false => exact tS_of (L.mono s) R1 h
theorem ds_par2 {i j : Nat} {x y : Str} {a b : Expr} {px py pt pos : Pos} {kt k2 pt2} (ha : PA X [a, b] (tA X.K T W gs)) (hc : X.calm = true) (hN : X.N.Nodup) (hi : X.N[i]? = some x := by rfl) (hj : X.N[j]? = some y := by rfl) (hij : i ≠ j := by decide)
    (hx : X.env.scope.names.lookup x = some .local := by rfl) (hy : X.env.scope.names.lookup y = some .local := by rfl) (hP : PS X (.Assign [.Tuple [.Name x px, .Name y py] kt pt] (.Tuple [a, b] k2 pt2) pos) (tPar i j (tA X.K T W gs))) :
    PS X (.Assign [.Tuple [.Name x px, .Name y py] kt pt] (.Tuple [a, b] k2 pt2) pos) (tS X.K T W (sPar2 i j gs)) := by
  refine psImp hP fun D σ H h => ?_
  obtain ⟨ρ, M, F, α, L, R, h⟩ := tS_to h
  refine rd_of L R (atS_bind L h fun vs M1 us H1 F1 α1 s R1 r h => ?_)
  cases r with
  | nil =>
    obtain ⟨z, e, po⟩ := h
    cases e
  | cons r1 r =>
    cases r with
    | nil =>
      obtain ⟨z, e, po⟩ := h
      cases e
    | cons r2 r =>
      cases r with
      | nil => exact ⟨_, _, rfl, atS_nx (((L.mono s).set r1).set r2) R1 h⟩
      | cons r3 r =>
        obtain ⟨z, e, po⟩ := h
        cases e
theorem ds_par3 {i j l : Nat} {st : Stmt} (hP : PS X st (tPar3 i j l (tA X.K T W gs))) : PS X st (tS X.K T W (sPar3 i j l gs)) := by
  refine psImp hP fun D σ H h => ?_
  obtain ⟨ρ, M, F, α, L, R, h⟩ := tS_to h
  refine rd_of L R (atS_bind L h fun vs M1 us H1 F1 α1 s R1 r h => ?_)
  cases r with
  | nil =>
    obtain ⟨z, e, po⟩ := h
    cases e
  | cons r1 r =>
    cases r with
    | nil =>
      obtain ⟨z, e, po⟩ := h
      cases e
    | cons r2 r =>
      cases r with
      | nil =>
        obtain ⟨z, e, po⟩ := h
        cases e
      | cons r3 r =>
        cases r with
        | nil => exact ⟨_, _, _, rfl, atS_nx ((((L.mono s).set r1).set r2).set r3) R1 h⟩
        | cons r4 r =>
          obtain ⟨z, e, po⟩ := h
          cases e
/-- a turn -/
theorem turn_at {K : PySem.W.Frag} {D : Ends} {H F : Hp} {α : List Addr} {r : Option (Fl × EV × MH)} {next : EV → MH → Option (Fl × EV × MH)} {N : L2.St → Hp → Prop} (h : atS K T W D H F α (turnE r next))
    (hN : ∀ σ' ρ' M' H' F' α', LR K T F' α' σ' ρ' → HR K T H' M' F' α' → Step H F α H' F' α' → atS K T W D H' F' α' (next ρ' M') → N σ' H') : atS K T W { D with nx := N, ct := N, bk := D.nx } H F α r := by
  obtain ⟨z, e, po⟩ := h
  cases r with
  | none => cases e
  | some r =>
    obtain ⟨fl, ρ1, M1⟩ := r
    refine ⟨_, rfl, ?_⟩
    cases fl with
    | nx => exact fun σ' H' F' α' L R s => hN σ' ρ1 M1 H' F' α' L R s ⟨z, e, poS_step s po⟩
    | ct => exact fun σ' H' F' α' L R s => hN σ' ρ1 M1 H' F' α' L R s ⟨z, e, poS_step s po⟩
    | bk =>
      have e2 : (Fl.nx, ρ1, M1) = z := Option.some.inj e
      subst e2
      exact fun σ' H' F' α' L R s => po σ' H' F' α' L R s
    | rt v =>
      have e2 : (Fl.rt v, ρ1, M1) = z := Option.some.inj e
      subst e2
      exact fun u H' F' α' R s => po u H' F' α' R s
    | ex c xs =>
      have e2 : (Fl.ex c xs, ρ1, M1) = z := Option.some.inj e
      subst e2
      exact fun dd σ' H' F' α' L R s => po dd σ' H' F' α' L R s
theorem ds_while (hp : PassesOwn (model X.prog X.w) X.A X.env X.xe) (hc : PT X c (tT X.K T W t)) (hb : PSs X p (tS X.K T W b)) : PS X (.While c p [] pos) (tS X.K T W (sWhile t b)) := by
  refine psImp (ps_while hp hc hb) fun D σ H h => ?_
  obtain ⟨ρ, M, F, α, L, R, h⟩ := tS_to h
  refine ⟨fun m σ H => ∃ ρ M F α, LR X.K T F α σ ρ ∧ HR X.K T H M F α ∧ atS X.K T W D H F α (whileN m t b ρ M), ⟨_, ρ, M, F, α, L, R, h⟩, ?_⟩
  rintro m σ H ⟨ρ, M, F, α, L, R, h⟩
  cases m with
  | zero =>
    obtain ⟨z, e, po⟩ := h
    cases e
  | succ n =>
    refine rd_of L R (atS_bind (g := t ρ M) L h fun v M1 u H1 F1 α1 s R1 r h => ?_)
    subst r
    cases u with
    | true => exact ⟨fun σ' H' => ∃ m', m' < n + 1 ∧ ∃ ρ M F α, LR X.K T F α σ' ρ ∧ HR X.K T H' M F α ∧ atS X.K T W D H' F α (whileN m' t b ρ M), fun _ _ z => z,
        tS_of (L.mono s) R1 (turn_at h fun σ' ρ' M' H' F' α' L' R' s' h' => ⟨n, Nat.lt_succ_self n, ρ', M', F', α', L', R', h'⟩)⟩
    | false => exact atS_nx (L.mono s) R1 h
theorem ds_for {tg iter : Expr} {gg : TGX} {it : IX} (hp : PassesOwn (model X.prog X.w) X.A X.env X.xe) (hc : X.calm = true) (hi : PI X tg iter (iD X.K T W it)) (hg : PG X tg (gD X.K T gg)) (hb : PSs X p (tS X.K T W b)) (hs : ∀ x, foldedSetIterable iter X.env x = pure x := by intro _; rfl) :
    PS X (.For tg iter p [] pos) (tS X.K T W (sFor gg it b)) := by
  refine psImp (ps_for hp hc hi hg hb hs) fun D σ H h => ?_
  obtain ⟨ρ, M, F, α, L, R, h⟩ := tS_to h
  refine rd_of L R (atS_bind L h fun ds M1 J H1 F1 α1 s R1 j h => ?_)
  refine ⟨fun i m σ' H' => m = ds.length - i ∧ i ≤ ds.length ∧ ∃ ρ' M' F' α', LR X.K T F' α' σ' ρ' ∧ HR X.K T H' M' F' α' ∧ Same F1 F' ∧ atS X.K T W D H' F' α' (forL gg b (ds.drop i) ρ' M'), ⟨_, rfl, Nat.zero_le _, ρ, M1, F1, α1, L.mono s, R1, Same.refl _, by simpa using h⟩, ?_⟩
  rintro i m σ' H' ⟨rfl, hi, ρ', M', F', α', L', R', sm, h'⟩
  by_cases hlt : i < ds.length
  · obtain ⟨go, yl⟩ := (j H' M' F' α' sm R' i).1 hlt
    refine .inr ⟨go, fun σ'' H'' => ∃ m', m' < ds.length - i ∧ m' = ds.length - (i + 1) ∧ i + 1 ≤ ds.length ∧ ∃ ρ' M' F' α', LR X.K T F' α' σ'' ρ' ∧ HR X.K T H'' M' F' α' ∧ Same F1 F' ∧ atS X.K T W D H'' F' α' (forL gg b (ds.drop (i + 1)) ρ' M'),
      fun σ'' H'' ⟨m', h1, h2, h3, h4⟩ => ⟨m', h1, h2, h3, h4⟩, fun x H2 y => ?_⟩
    obtain ⟨F2, R2, s2, d, hd, r⟩ := yl x H2 y
    have ed : ds.drop i = d :: ds.drop (i + 1) := by
      rw [List.drop_eq_getElem_cons hlt]
      obtain ⟨_, q⟩ := List.getElem?_eq_some_iff.mp hd
      rw [q]
    rw [ed] at h'
    have h' := atS_step s2 h'
    obtain ⟨z, e, po⟩ := h'
    have e' : (match gg (.d d) ρ' M' with
      | none => none
      | some (ρ1, M1) => turnE (b ρ1 M1) (forL gg b (ds.drop (i + 1)))) = some z := e
    cases hgg : gg (.d d) ρ' M' with
    | none => rw [hgg] at e'; cases e'
    | some q =>
      obtain ⟨ρ2, M2⟩ := q
      rw [hgg] at e'
      refine ⟨ρ', M', F2, α', .d d, L'.mono s2, R2, r, ρ2, M2, hgg, fun σ3 H3 F3 α3 L3 R3 s3 => ?_⟩
      exact tS_of L3 R3 (turn_at ⟨z, e', poS_step s3 po⟩ fun σ4 ρ4 M4 H4 F4 α4 L4 R4 s4 h4 => ⟨ds.length - (i + 1), by omega, rfl, hlt, ρ4, M4, F4, α4, L4, R4, ((sm.trans s2.ext).trans s3.ext).trans s4.ext, h4⟩)
  · have ei : i = ds.length := by omega
    subst ei
    refine .inl ⟨(j H' M' F' α' sm R' _).2 (Nat.le_refl _), ?_⟩
    have e0 : ds.drop ds.length = [] := by simp
    rw [e0] at h'
    exact atS_nx L' R' h'
theorem dg_name {i : Nat} {x : Str} (hN : X.N.Nodup) (hi : X.N[i]? = some x := by rfl) (hx : Loc X.env.scope x := by first | exact Or.inl rfl | exact Or.inr rfl) (hf : X.fn x = true ∨ X.env.scope.names.lookup x = some .local := by first | exact .inl rfl | exact .inr rfl | assumption) :
    PG X (.Name x pos) (gD X.K T (gNm i)) := by
  refine ⟨fun pins s σ H v u Q I r h => ?_⟩
  refine (pg_name (i := i) hN hi hx hf).run pins s σ H v u Q I r ?_
  obtain ⟨ρ, M, F, α, vl, L, R, rv, ρ', M', e, k⟩ := h
  have e2 := Option.some.inj e
  have e3 : ρ.set i (some vl) = ρ' := congrArg Prod.fst e2
  have e4 : M = M' := congrArg Prod.snd e2
  subst e3 e4
  exact k _ _ F α (L.set rv) R Step.refl
def gsD (K : PySem.W.Frag) (T : Tb) (tg : List PD → EV → MH → Option (EV × MH)) : TGs := fun vs σ H Q => ∃ ρ M F α ds, LR K T F α σ ρ ∧ HR K T H M F α ∧ Reps K T F vs ds ∧ ∃ ρ' M', tg ds ρ M = some (ρ', M') ∧ ∀ σ' H' F' α', LR K T F' α' σ' ρ' → HR K T H' M' F' α' → Step H F α H' F' α' → Q σ' H'
theorem pgImp {tg : Expr} {t u : TG} (h : PG X tg t) (i : ∀ v σ H Q, u v σ H Q → t v σ H Q) : PG X tg u := ⟨fun pins s σ H v w Q I r hw => h.run pins s σ H v w Q I r (i v σ H Q hw)⟩
theorem pgsImp {tg : List Expr} {t u : TGs} (h : PGs X tg t) (i : ∀ v σ H Q, u v σ H Q → t v σ H Q) : PGs X tg u := ⟨fun pins s σ H v w Q I r hw => h.run pins s σ H v w Q I r (i v σ H Q hw)⟩
theorem dgs_nil : PGs X [] (gsD X.K T gsNil) := by
  refine pgsImp pgs_nil fun vs σ H Q h => ?_
  obtain ⟨ρ, M, F, α, ds, L, R, rv, ρ', M', e, k⟩ := h
  cases rv with
  | nil =>
    have e2 := Option.some.inj e
    have e3 : ρ = ρ' := congrArg Prod.fst e2
    have e4 : M = M' := congrArg Prod.snd e2
    subst e3 e4
    exact ⟨rfl, k _ _ F α L R Step.refl⟩
  | cons _ _ => cases e
theorem dgs_cons {gg : TGX} {gr : List PD → EV → MH → Option (EV × MH)} (h1 : PG X e (gD X.K T gg)) (h2 : PGs X es (gsD X.K T gr)) (hs : (assignEach (e :: es) X.env).map (·.2) = assign e X.env :: (assignEach es X.env).map (·.2) := by rfl) : PGs X (e :: es) (gsD X.K T (gsCons gg gr)) := by
  refine pgsImp (pgs_cons h1 h2 hs) fun vs σ H Q h => ?_
  obtain ⟨ρ, M, F, α, ds, L, R, rv, ρ', M', e, k⟩ := h
  cases rv with
  | nil => cases e
  | cons r rr =>
    rename_i v vs d ds
    refine ⟨v, vs, rfl, ?_⟩
    dsimp only [gsCons] at e
    cases h3 : gg (.d d) ρ M with
    | none => rw [h3] at e; cases e
    | some q =>
      obtain ⟨ρ1, M1⟩ := q
      rw [h3] at e
      refine ⟨ρ, M, F, α, .d d, L, R, r, ρ1, M1, h3, fun σ' H' F' α' L' R' s' => ?_⟩
      exact ⟨ρ1, M1, F', α', ds, L', R', rr.mono s'.ext, ρ', M', e, fun σ2 H2 F2 α2 L2 R2 s2 => k _ _ _ _ L2 R2 (s'.trans s2)⟩
theorem dg_tup {k : Nat} {n : Nat} {gr : List PD → EV → MH → Option (EV × MH)} (hc : X.calm = true) (h : PGs X es (gsD X.K T gr)) (hl : ∀ ds ρ M z, gr ds ρ M = some z → ds.length = n) (hn : (assignEach es X.env).length = n := by rfl) (hst : (assignEach es X.env).findIdx? (·.1) = none := by rfl) :
    PG X (.Tuple es k pos) (gD X.K T (gTp gr)) := by
  refine pgImp (pg_tup hc h hn hst) fun v σ H Q h => ?_
  obtain ⟨ρ, M, F, α, vl, L, R, rv, ρ', M', e, k⟩ := h
  cases vl with
  | r _ => cases e
  | d x =>
    cases x with
    | tup ds =>
      cases rv with
      | tup h1 h2 => exact ⟨_, _, rfl, sqT_H R h1, by rw [h2.length]; exact hl _ _ _ _ e, ρ, M, F, α, ds, L, R, h2, ρ', M', e, k⟩
    | _ => cases e
theorem len0 : ∀ ds ρ M z, gsNil ds ρ M = some z → ds.length = 0 := fun ds ρ M z e => by
  cases ds with
  | nil => rfl
  | cons _ _ => cases e
theorem lenS {gg : TGX} {gr : List PD → EV → MH → Option (EV × MH)} {n : Nat} (h : ∀ ds ρ M z, gr ds ρ M = some z → ds.length = n) : ∀ ds ρ M z, gsCons gg gr ds ρ M = some z → ds.length = n + 1 := fun ds ρ M z e => by
  cases ds with
  | nil => cases e
  | cons d ds =>
    dsimp only [gsCons] at e
    cases h3 : gg (.d d) ρ M with
    | none => rw [h3] at e; cases e
    | some q =>
      rw [h3] at e
      exact congrArg Nat.succ (h _ _ _ _ e)
end
/-- a list, a tuple that never changes; a text, sign by sign -/
def itD : PD → Option (List PD)
  | .lst ds => some ds
  | .tup ds => some ds
  | .scr ds => some ds
  | .str x => some (x.cps.toList.map fun c => .str ⟨#[c]⟩)
  | _ => none
def iSeq (g : EX) : IX := fun ρ M => bnd (g ρ M) fun v M1 => match v with
  | .d x => (match itD x with
    | some ds => some (.ok ds M1)
    | none => none)
  | .r _ => none
def rangeL (lo hi : Int) : List PD := (List.range (hi - lo).toNat).map fun i => .int (lo + (i : Nat))
def smallI (i : Int) : Bool := decide (-(2 ^ 62) ≤ i) && decide (i < 2 ^ 62)
def iRange1 (a : EX) : IX := fun ρ M => bnd (a ρ M) fun v M1 => match v with
  | .d (.int j) => if smallI j = true then some (.ok (rangeL 0 j) M1) else none
  | _ => none
def iRange2 (a b : EX) : IX := fun ρ M => bnd (a ρ M) fun v M1 => bnd (b ρ M1) fun w M2 => match v, w with
  | .d (.int i), .d (.int j) => if (smallI i && smallI j) = true then some (.ok (rangeL i j) M2) else none
  | _, _ => none
section
variable {X : Cx} {T : Tb} {W : WX} {g : EX} {gs : AX} {tg e a b : Expr} {pos : Pos}
theorem piImp {wi wj : TI} (h : PI X tg e wi) (i : ∀ σ H R, wj σ H R → wi σ H R) : PI X tg e wj := ⟨fun pins s σ H R I hw => h.run pins s σ H R I (i σ H R hw)⟩
theorem piOr {wi wj : TI} (h : PI X tg e wi) (h' : PI X tg e wj) : PI X tg e (fun σ H R => wi σ H R ∨ wj σ H R) := ⟨fun pins s σ H R I hw => hw.elim (h.run pins s σ H R I) (h'.run pins s σ H R I)⟩
theorem jok_list' {K : PySem.W.Frag} {F : Hp} {a : Addr} {xs : List V} {ds : List PD} (hF : SqL K F a xs) (r : Reps K T F xs ds) : Jok K T (Itl K a) F ds := fun H' M' F' α' sm R i => by
  have hq : SqL K H' a xs := sqL_H R (sqL_mono sm hF)
  refine ⟨fun hi => ?_, fun hi => ⟨xs, hq, by rw [r.length]; exact hi⟩⟩
  obtain ⟨v, hv, rv⟩ := r.get (i := i) (d := ds[i]) (by simp [hi])
  refine ⟨⟨xs, v, hq, hv⟩, fun x H2 ⟨e, y⟩ => ?_⟩
  subst e
  have hx := y xs hq
  rw [hv] at hx
  cases hx
  exact ⟨F', R, Step.refl, ds[i], by simp [hi], rv.mono sm⟩
theorem jok_tup {K : PySem.W.Frag} {F : Hp} {a : Addr} {xs : List V} {ds : List PD} (hF : SqT K F a xs) (r : Reps K T F xs ds) : Jok K T (Itt K a) F ds := fun H' M' F' α' sm R i => by
  have hq : SqT K H' a xs := sqT_H R (sqT_mono sm hF)
  refine ⟨fun hi => ?_, fun hi => ⟨xs, hq, by rw [r.length]; exact hi⟩⟩
  obtain ⟨v, hv, rv⟩ := r.get (i := i) (d := ds[i]) (by simp [hi])
  refine ⟨⟨xs, v, hq, hv⟩, fun x H2 ⟨e, y⟩ => ?_⟩
  subst e
  have hx := y xs hq
  rw [hv] at hx
  cases hx
  exact ⟨F', R, Step.refl, ds[i], by simp [hi], rv.mono sm⟩
theorem jok_str {K : PySem.W.Frag} {F : Hp} (x : Str) : Jok K T (Its x) F (x.cps.toList.map fun c => .str ⟨#[c]⟩) := fun H' M' F' α' sm R i => by
  refine ⟨fun hi => ?_, fun hi => by show x.cps.size ≤ i; simpa using hi⟩
  have hi' : i < x.cps.size := by simpa using hi
  refine ⟨hi', fun y H2 ⟨e, c, hc, ey⟩ => ?_⟩
  subst e ey
  refine ⟨F', R, Step.refl, .str ⟨#[c]⟩, ?_, .str _⟩
  rw [List.getElem?_map, Array.getElem?_toList, hc]
  rfl
theorem jok_range {K : PySem.W.Frag} {F : Hp} (lo hi : Int) : Jok K T (Itr lo (hi - lo).toNat) F (rangeL lo hi) := fun H' M' F' α' sm R i => by
  have hl : (rangeL lo hi).length = (hi - lo).toNat := by simp [rangeL]
  rw [hl]
  refine ⟨fun h => ⟨h, fun y H2 ⟨e, ey⟩ => ?_⟩, fun h => h⟩
  subst e ey
  exact ⟨F', R, Step.refl, .int (lo + (i : Nat)), by simp [rangeL, h], .int _⟩
theorem di_seq (he : PE X e (tE X.K T W g)) : PI X tg e (iD X.K T W (iSeq g)) := by
  refine piImp (piOr (pi_list he) (piOr (pi_tup he) (pi_str he))) fun σ H Rr h => ?_
  obtain ⟨ρ, M, F, α, L, R, h⟩ := rd_to h
  -- which kind it is
  have key : ∀ (k : V → Hp → Prop), (∀ v x M1 ds H1 F1 α1, HR X.K T H1 M1 F1 α1 → Rep X.K T F1 v x → itD x = some ds → g ρ M = some (.ok (.d x) M1) → (∀ J, Jok X.K T J F1 ds → Rr J H1) → k v H1) → tE X.K T W g σ H k := fun k hk => by
    refine rd_of L R ?_
    obtain ⟨q, e, po⟩ := h
    cases hg : g ρ M with
    | none => unfold iSeq at e; rw [hg] at e; cases e
    | some z =>
      refine ⟨z, rfl, ?_⟩
      unfold iSeq at e
      rw [hg] at e
      cases z with
      | ex c xs M1 =>
        have e2 := Option.some.inj e
        subst e2
        exact po
      | ok v M1 =>
        intro u H1 F1 α1 R1 s1 r1
        rw [bnd_ok] at e
        cases v with
        | r _ => cases e
        | d x =>
          dsimp only at e
          cases hx : itD x with
          | none => rw [hx] at e; cases e
          | some ds =>
            rw [hx] at e
            exact hk u x M1 ds H1 F1 α1 R1 r1 hx hg fun J j => at_okS (W := W) (σ := σ) s1 R1 ⟨q, e, po⟩ j
  cases hg : g ρ M with
  | none =>
    obtain ⟨q, e, po⟩ := h
    unfold iSeq at e
    rw [hg] at e
    cases e
  | some z =>
    cases z with
    | ex c xs M1 => exact .inl (key _ fun v x M2 ds H1 F1 α1 R1 r1 hx hg2 hj => by rw [hg] at hg2; cases hg2)
    | ok v M1 =>
      cases v with
      | r _ => exact .inl (key _ fun v x M2 ds H1 F1 α1 R1 r1 hx hg2 hj => by rw [hg] at hg2; cases hg2)
      | d x0 =>
        cases x0 with
        | lst ds0 =>
          refine .inl (key _ fun v x M2 ds H1 F1 α1 R1 r1 hx hg2 hj => ?_)
          rw [hg] at hg2
          cases hg2
          have hx' := Option.some.inj hx
          subst hx'
          cases r1 with
          | lst h1 h2 => exact ⟨_, rfl, ⟨_, SqL.of (lst_H R1 h1)⟩, hj _ (jok_list' (SqL.of h1) h2)⟩
        | scr ds0 =>
          refine .inl (key _ fun v x M2 ds H1 F1 α1 R1 r1 hx hg2 hj => ?_)
          rw [hg] at hg2
          cases hg2
          have hx' := Option.some.inj hx
          subst hx'
          cases r1 with
          | scr h1 h2 => exact ⟨_, rfl, ⟨_, sqL_H R1 h1⟩, hj _ (jok_list' h1 h2)⟩
        | tup ds0 =>
          refine .inr (.inl (key _ fun v x M2 ds H1 F1 α1 R1 r1 hx hg2 hj => ?_))
          rw [hg] at hg2
          cases hg2
          have hx' := Option.some.inj hx
          subst hx'
          cases r1 with
          | tup h1 h2 => exact ⟨_, rfl, ⟨_, sqT_H R1 h1⟩, hj _ (jok_tup h1 h2)⟩
        | str y =>
          refine .inr (.inr (key _ fun v x M2 ds H1 F1 α1 R1 r1 hx hg2 hj => ?_))
          rw [hg] at hg2
          cases hg2
          have hx' := Option.some.inj hx
          subst hx'
          cases r1
          exact ⟨_, rfl, hj _ (jok_str y)⟩
        | _ => exact .inl (key _ fun v x M2 ds H1 F1 α1 R1 r1 hx hg2 hj => by rw [hg] at hg2; cases hg2; cases hx)
theorem small_ok {i : Int} (h : smallI i = true) : -(2 ^ 62) ≤ i ∧ i < 2 ^ 62 := by
  have := Bool.and_eq_true_iff.mp h
  exact ⟨of_decide_eq_true this.1, of_decide_eq_true this.2⟩
theorem da_one {h : EX} (hs : starEach [a] X.env = [(false, eval a X.env)]) (ha : PE X a (tE X.K T W h)) : PA X [a] (tCons (tE X.K T W h) tNil) := pa_cons ha pa_nil hs
theorem di_range1 {h : EX} {p : Pos} (hm : X.mg "range" = none) (ha : PE X a (tE X.K T W h)) (hg : Gl X "range" := by rfl) (hs : starEach [a] X.env = [(false, eval a X.env)] := by rfl) : PI X tg (.Call (.Name "range" p) [a] [] pos) (iD X.K T W (iRange1 h)) := by
  refine piImp (pi_range1 hg hm (da_one hs ha) hs) fun σ H Rr hh => ?_
  obtain ⟨ρ, M, F, α, L, R, hh⟩ := rd_to hh
  refine rd_of L R (at_bind hh fun x M1 v H1 F1 α1 s1 R1 r1 h1 => ?_)
  obtain ⟨q, e, po⟩ := h1
  cases x with
  | r _ => cases e
  | d x =>
    cases x with
    | int j =>
      have e' : (if smallI j = true then some (Rs.ok (rangeL 0 j) M1) else none) = some q := e
      by_cases hj : smallI j = true
      · rw [if_pos hj] at e'
        cases r1
        obtain ⟨j1, j2⟩ := small_ok hj
        refine ⟨j, rfl, j1, j2, ?_⟩
        have jk := jok_range (K := X.K) (T := T) (F := F1) 0 j
        rw [Int.sub_zero] at jk
        exact at_ok (W := W) (σ := σ) R1 ⟨q, e', po⟩ jk
      · rw [if_neg hj] at e'
        cases e'
    | _ => cases e
theorem di_range2 {h k : EX} {p : Pos} (hm : X.mg "range" = none) (ha : PE X a (tE X.K T W h)) (hb : PE X b (tE X.K T W k)) (hg : Gl X "range" := by rfl) (hs : starEach [a, b] X.env = [(false, eval a X.env), (false, eval b X.env)] := by rfl) (hs2 : starEach [b] X.env = [(false, eval b X.env)] := by rfl) :
    PI X tg (.Call (.Name "range" p) [a, b] [] pos) (iD X.K T W (iRange2 h k)) := by
  refine piImp (pi_range2 hg hm (pa_cons ha (pa_cons hb pa_nil hs2) (by rw [hs, hs2])) hs hs2) fun σ H Rr hh => ?_
  obtain ⟨ρ, M, F, α, L, R, hh⟩ := rd_to hh
  refine rd_of L R (at_bind hh fun x M1 v H1 F1 α1 s1 R1 r1 h1 => ?_)
  refine rd_of (L.mono s1) R1 (at_bind h1 fun y M2 w H2 F2 α2 s2 R2 r2 h2 => ?_)
  obtain ⟨q, e, po⟩ := h2
  cases x with
  | r _ => cases e
  | d x =>
    cases x with
    | int i =>
      cases y with
      | r _ => cases e
      | d y =>
        cases y with
        | int j =>
          have e' : (if (smallI i && smallI j) = true then some (Rs.ok (rangeL i j) M2) else none) = some q := e
          by_cases hj : (smallI i && smallI j) = true
          · rw [if_pos hj] at e'
            cases r1
            cases r2
            obtain ⟨k1, k2⟩ := Bool.and_eq_true_iff.mp hj
            obtain ⟨i1, i2⟩ := small_ok k1
            obtain ⟨j1, j2⟩ := small_ok k2
            exact ⟨i, j, rfl, ⟨i1, i2, j1, j2⟩, at_ok (W := W) (σ := σ) R2 ⟨q, e', po⟩ (jok_range i j)⟩
          · rw [if_neg hj] at e'
            cases e'
        | _ => cases e
    | _ => cases y <;> cases e
end
end Mi
namespace Mi
open PySem PySem.Spec PyProof.Rows L2
def wipeE (ρ : EV) : List Nat → EV
  | [] => ρ
  | v :: vs => (wipeE ρ vs).set v none
def okOnly {β : Type} : Option (Rs β) → Option (β × MH)
  | some (.ok b M) => some (b, M)
  | _ => none
/-- one turn's end: the item's value ys ahead -/
def lcL (bd : PD → EV → Option EV) (t : TX) (e : EX) : List PD → EV → MH → Option (List PD × MH)
  | [], _, M => some ([], M)
  | d :: ds, ρ, M => match bd d ρ with
    | none => none
    | some ρ1 => match okOnly (t ρ1 M) with
      | none => none
      | some (b, M2) => if b = true then (match okOnly (e ρ1 M2) with
        | some (.d y, M3) => (match lcL bd t e ds ρ M3 with
          | some (ys, M4) => some (y :: ys, M4)
          | none => none)
        | _ => none) else lcL bd t e ds ρ M2
def eLc (vs : List Nat) (bd : PD → EV → Option EV) (it : IX) (t : TX) (e : EX) : EX := fun ρ M => bnd (it ρ M) fun ds M1 => match lcL bd t e ds (wipeE ρ vs) M1 with
  | some (ys, M2) => if ys.length ≤ sizeLine then some (.ok (.d (.lst ys)) M2) else none
  | none => none
def tYs : TX := fun _ M => some (.ok true M)
def bd1 (i : Nat) : PD → EV → Option EV := fun d ρ => some (ρ.set i (some (.d d)))
def bd2 (i j : Nat) : PD → EV → Option EV := fun d ρ => match d with
  | .tup [x, y] => some ((ρ.set i (some (.d x))).set j (some (.d y)))
  | _ => none
abbrev W0 : WX := fun _ _ _ _ => False
theorem okOnly_some {β : Type} {x : Option (Rs β)} {b : β} {M : MH} (h : okOnly x = some (b, M)) : x = some (.ok b M) := by
  cases x with
  | none => cases h
  | some r =>
    cases r with
    | ok c N =>
      have e := Option.some.inj h
      cases e
      rfl
    | ex _ _ _ => cases h
section
variable {K : PySem.W.Frag} {T : Tb} {F H : Hp} {α : List Addr} {σ : L2.St} {ρ : EV}
theorem wipeE_len (ρ : EV) : ∀ vs : List Nat, (wipeE ρ vs).length = ρ.length
  | [] => rfl
  | v :: vs => by unfold wipeE; rw [List.length_set, wipeE_len ρ vs]
theorem LR.wipe (L : LR K T F α σ ρ) : ∀ vs : List Nat, LR K T F α (L2.wipe σ vs) (wipeE ρ vs)
  | [] => L
  | v :: vs => by
    have L' := LR.wipe L vs
    refine ⟨by rw [wipeE_len, wipe_length]; exact L.1, fun j wl e => ?_⟩
    have e : ((wipeE ρ vs).set v none)[j]? = some (some wl) := e
    show ∃ w, ((L2.wipe σ vs).set v none)[j]? = some (some w) ∧ _
    by_cases q : v = j
    · subst q
      by_cases l : v < (wipeE ρ vs).length
      · rw [List.getElem?_set_self l] at e
        cases e
      · rw [List.getElem?_eq_none (by simpa using l)] at e
        cases e
    · rw [List.getElem?_set_ne q] at e ⊢
      exact L'.2 j wl e
/-- how a target of names binds, at the hand layer -/
def BdOk (K : PySem.W.Frag) (T : Tb) (g : TG) (vs : List Nat) (bd : PD → EV → Option EV) : Prop := ∀ (x : V) (d : PD) (σ : L2.St) (ρ ρ1 : EV) (H F : Hp) (α : List Addr) (M : MH) (Q : L2.St → Hp → Prop), HR K T H M F α → LR K T F α (L2.wipe σ vs) ρ → Rep K T F x d → bd d ρ = some ρ1 →
  (∀ σ1, LR K T F α σ1 ρ1 → L2.wipe σ1 vs = L2.wipe σ vs → Q σ1 H) → g x (L2.wipe σ vs) H Q
theorem wipe_set1 (σ : L2.St) (i : Nat) (o : Option V) : L2.wipe ((L2.wipe σ [i]).set i o) [i] = L2.wipe σ [i] := by
  show ((σ.set i none).set i o).set i none = σ.set i none
  rw [List.set_set, List.set_set]
theorem bdOk1 (i : Nat) : BdOk K T (gName i) [i] (bd1 i) := fun x d σ ρ ρ1 H F α M Q R L r e k => by
  have e2 := Option.some.inj e
  subst e2
  exact k _ (L.set (vl := .d d) r) (wipe_set1 σ i _)
theorem wipe_set2 (σ : L2.St) {i j : Nat} (n : i ≠ j) (o u : Option V) : L2.wipe (((L2.wipe σ [i, j]).set i o).set j u) [i, j] = L2.wipe σ [i, j] := by
  show (((((σ.set j none).set i none).set i o).set j u).set j none).set i none = (σ.set j none).set i none
  rw [List.set_set, List.set_set, List.set_comm _ _ n, List.set_set, List.set_set]
theorem bdOk2 {i j : Nat} (n : i ≠ j) : BdOk K T (gTup K 2 (gCons (gName i) (gCons (gName j) gNil))) [i, j] (bd2 i j) := fun x d σ ρ ρ1 H F α M Q R L r e k => by
  cases d with
  | tup ds =>
    cases r with
    | tup h1 h2 =>
      cases h2 with
      | nil => cases e
      | cons r1 h2 =>
        cases h2 with
        | nil => cases e
        | cons r2 h2 =>
          cases h2 with
          | nil =>
            have e2 := Option.some.inj e
            subst e2
            exact ⟨_, _, rfl, sqT_H R h1, rfl, _, _, rfl, _, _, rfl, rfl, k _ ((L.set (vl := .d _) r1).set (vl := .d _) r2) (wipe_set2 σ n _ _)⟩
          | cons _ _ => cases e
  | _ => cases e
end
section
variable {X : Cx} {T : Tb} {W : WX} {bd : PD → EV → Option EV} {it : IX} {t : TX} {e : EX} {vs : List Nat}
/-- the reading of a list comprehension -/
theorem lc_read {K : PySem.W.Frag} {g : TG} {σ : L2.St} {H : Hp} {Q : VK} (hb : BdOk K T g vs bd) (h : tE K T W (eLc vs bd it t e) σ H Q) : tLc (iD K T W it) g (tT K T W0 t) (tE K T W0 e) vs σ H Q := by
  obtain ⟨ρ, M, F, α, L, R, h⟩ := rd_to h
  refine rd_of L R (at_bind h fun ds M1 J H1 F1 α1 s1 R1 j h1 => ?_)
  intro D hD
  obtain ⟨q, eq, po⟩ := h1
  cases hl : lcL bd t e ds (wipeE ρ vs) M1 with
  | none => simp only [hl] at eq; cases eq
  | some r =>
    obtain ⟨ys, M2⟩ := r
    simp only [hl] at eq
    by_cases hz : ys.length ≤ sizeLine
    · rw [if_pos hz] at eq
      have L1 := (L.mono s1).wipe vs
      have R2 : HR K T (upd H1 D (.lst [])) M1 F1 α1 := R1.side hD
      have nF : F1 D = none := R1.freeF hD
      have nA : D ∉ α1 := R1.freeA hD
      -- the invariant: what is made so far, what is still to come
      refine ⟨fun i m H' => m = ds.length - i ∧ i ≤ ds.length ∧ ∃ xs zs Mi F' α', HR K T H' Mi F' α' ∧ Step (upd H1 D (.lst [])) F1 α1 (upd H' D (.lst [])) F' α' ∧ H' D = some (.lst xs) ∧ F' D = none ∧ D ∉ α' ∧
          Reps K T F' xs zs ∧ ∃ rest, lcL bd t e (ds.drop i) (wipeE ρ vs) Mi = some (rest, M2) ∧ zs ++ rest = ys,
        ⟨_, rfl, Nat.zero_le _, [], [], M1, F1, α1, R2, by rw [upd_upd]; exact Step.refl, upd_same, nF, nA, .nil, ys, by simpa using hl, rfl⟩, ?_⟩
      rintro i m H' ⟨rfl, hi, xs, zs, Mi, F', α', R', s', hD', nF', nA', rz, rest, hrest, hys⟩
      have sm : Same F1 F' := s'.ext
      by_cases hlt : i < ds.length
      · obtain ⟨go, yl⟩ := (j H' Mi F' α' sm R' i).1 hlt
        refine .inr ⟨go, fun H'' => ∃ m', m' < ds.length - i ∧ m' = ds.length - (i + 1) ∧ i + 1 ≤ ds.length ∧ ∃ xs zs Mi F' α', HR K T H'' Mi F' α' ∧ Step (upd H1 D (.lst [])) F1 α1 (upd H'' D (.lst [])) F' α' ∧ H'' D = some (.lst xs) ∧ F' D = none ∧ D ∉ α' ∧
          Reps K T F' xs zs ∧ ∃ rest, lcL bd t e (ds.drop (i + 1)) (wipeE ρ vs) Mi = some (rest, M2) ∧ zs ++ rest = ys, fun H'' ⟨m', h1, h2, h3, h4⟩ => ⟨m', h1, h2, h3, h4⟩, fun x H2 y => ?_⟩
        obtain ⟨F2, Rh, s2, d, hd, rd⟩ := yl x H2 y
        have ed : ds.drop i = d :: ds.drop (i + 1) := by
          rw [List.drop_eq_getElem_cons hlt]
          obtain ⟨_, q⟩ := List.getElem?_eq_some_iff.mp hd
          rw [q]
        rw [ed] at hrest
        dsimp only [lcL] at hrest
        obtain ⟨hD2, nF2, nA2⟩ := s2.keep D _ hD' nA' nF'
        cases hbd : bd d (wipeE ρ vs) with
        | none => rw [hbd] at hrest; cases hrest
        | some ρ1 =>
          rw [hbd] at hrest
          dsimp only at hrest
          -- D aside, steps go on
          have aside : ∀ {Ha Fa : Hp} {αa : List Addr}, Step H2 F2 α' Ha Fa αa → Step (upd H1 D (.lst [])) F1 α1 (upd Ha D (.lst [])) Fa αa := fun {Ha Fa αa} sa => by
            have sx : Step H' F' α' Ha Fa αa := s2.trans sa
            refine s'.trans ⟨sx.ext, sx.pre, fun a o ha na fa => ?_⟩
            by_cases qa : a = D
            · subst qa
              rw [upd_same] at ha
              obtain ⟨_, f1, n1⟩ := sx.keep a _ hD' nA' nF'
              exact ⟨KpT.of (upd_same.trans ha), f1, n1⟩
            · rw [upd_ne qa] at ha
              obtain ⟨k1, k2⟩ := sx.keep a o ha na fa
              exact ⟨k1.up qa, k2⟩
          have LL : LR K T F2 α' (L2.wipe σ vs) (wipeE ρ vs) := by
            have s12 := aside (Step.refl (H := H2) (F := F2) (α := α'))
            have s0 : Step (upd H1 D (.lst [])) F1 α1 (upd H2 D (.lst [])) F2 α' := s12
            exact ⟨L1.1, fun k vl ek => by
              obtain ⟨v, q1, q2⟩ := L1.2 k vl ek
              exact ⟨v, q1, q2.mono s0⟩⟩
          refine hb x d σ (wipeE ρ vs) ρ1 H2 F2 α' Mi _ Rh LL rd hbd fun σ1 Lb hw => ⟨hw, ?_⟩
          cases ht : okOnly (t ρ1 Mi) with
          | none => rw [ht] at hrest; cases hrest
          | some bt =>
            obtain ⟨b, Mt⟩ := bt
            rw [ht] at hrest
            dsimp only at hrest
            refine rd_of Lb Rh ⟨_, okOnly_some ht, fun b' H3 F3 α3 R3 s3 eb => ?_⟩
            obtain rfl : b' = b := eb
            obtain ⟨hD3, nF3, nA3⟩ := s3.keep D _ hD2 nA2 nF2
            cases b' with
            | false =>
              rw [if_neg Bool.false_ne_true] at hrest ⊢
              exact ⟨ds.length - (i + 1), by omega, rfl, hlt, xs, zs, Mt, F3, α3, R3, aside s3, hD3, nF3, nA3, (rz.mono s2.ext).mono s3.ext, rest, hrest, hys⟩
            | true =>
              rw [if_pos rfl] at hrest ⊢
              cases he : okOnly (e ρ1 Mt) with
              | none => rw [he] at hrest; cases hrest
              | some r =>
                obtain ⟨vy, My⟩ := r
                cases vy with
                | r _ => rw [he] at hrest; cases hrest
                | d y =>
                  rw [he] at hrest
                  dsimp only at hrest
                  refine rd_of (Lb.mono s3) R3 ⟨_, okOnly_some he, fun v H4 F4 α4 R4 s4 r4 => ?_⟩
                  obtain ⟨hD4, nF4, nA4⟩ := s4.keep D _ hD3 nA3 nF3
                  cases hq : lcL bd t e (ds.drop (i + 1)) (wipeE ρ vs) My with
                  | none => rw [hq] at hrest; cases hrest
                  | some r2 =>
                    obtain ⟨ys2, M5⟩ := r2
                    rw [hq] at hrest
                    have e5 := Option.some.inj hrest
                    have e6 : y :: ys2 = rest := congrArg Prod.fst e5
                    have e7 : M5 = M2 := congrArg Prod.snd e5
                    subst e6 e7
                    have lx : xs.length = zs.length := rz.length
                    have ly : zs.length + (ys2.length + 1) = ys.length := by rw [← hys]; simp
                    refine ⟨xs, hD4, by omega, ds.length - (i + 1), by omega, rfl, hlt, xs ++ [v], zs ++ [y], My, F4, α4, ?_, ?_, upd_same, nF4, nA4, ?_, ys2, hq, by rw [← hys]; simp⟩
                    · -- the list at D is told by nobody
                      refine ⟨fun a u e => ?_, R4.len, R4.nd, fun a m => ?_, R4.sep, fun k mo a e1 e2 => ?_, R4.old, fun q hq => tab_up (show H4 D = some (.lst xs) from hD4) (fun ps z => by cases z) (R4.tab q hq)⟩
                      · have qa : a ≠ D := fun z => by rw [z, nF4] at e; cases e
                        exact kept_upd (R4.fr a u e) qa
                      · rw [upd_ne (fun z => nA4 (by rw [← z]; exact m))]; exact R4.al a m
                      · have qa : a ≠ D := fun z => nA4 (by rw [← z]; exact List.mem_of_getElem? e2)
                        have h0 := R4.obj k mo a e1 e2
                        cases mo with
                        | lst ds => obtain ⟨xs, h1, h2⟩ := h0; exact ⟨xs, (upd_ne qa).trans h1, h2⟩
                        | dct ks ds => obtain ⟨kvs, h1, h2, h3⟩ := h0; exact ⟨kvs, (upd_ne qa).trans h1, h2, h3⟩
                        | ins c gs => obtain ⟨dx, fs, h1, h2⟩ := h0; exact ⟨dx, fs, (upd_ne qa).trans h1, h2⟩
                        | dcr ks gs => obtain ⟨kvs, g1, g2, g3⟩ := h0; exact ⟨kvs, (upd_ne qa).trans g1, g2, g3⟩
                        | dtp ks ds => obtain ⟨kvs, g1, g2, g3⟩ := h0; exact ⟨kvs, (upd_ne qa).trans g1, g2, g3⟩
                        | tpm ks => exact (upd_ne qa).trans h0
                        | gone => trivial
                    · rw [upd_upd]
                      exact aside (s3.trans s4)
                    · exact (((rz.mono s2.ext).mono s3.ext).mono s4.ext).append (.cons r4 .nil)
      · have ei : i = ds.length := by omega
        subst ei
        refine .inl ⟨(j H' Mi F' α' sm R' _).2 (Nat.le_refl _), ?_⟩
        have e0 : ds.drop ds.length = [] := by simp
        rw [e0] at hrest
        have e1 := Option.some.inj hrest
        have e2 : ([] : List PD) = rest := congrArg Prod.fst e1
        have e3 : Mi = M2 := congrArg Prod.snd e1
        subst e2 e3
        rw [List.append_nil] at hys
        subst hys
        -- D becomes known
        have s9 : Step H1 F1 α1 H' (upd F' D (.lst xs)) α' := by
          have sd : Step H1 F1 α1 (upd H1 D (.lst [])) F1 α1 := step_side hD
          have s8 := sd.trans s'
          refine ⟨fun a o e => ?_, s8.pre, fun a o ha na fa => ?_⟩
          · rw [upd_ne (fun z => by rw [z, nF] at e; cases e)]; exact s8.ext a o e
          · have qa : a ≠ D := fun z => by rw [z, hD] at ha; cases ha
            obtain ⟨h1, h2, h3⟩ := s8.keep a o ha na fa
            have h1 := h1.un qa
            exact ⟨h1, by rw [upd_ne qa]; exact h2, h3⟩
        have R9 : HR K T H' Mi (upd F' D (.lst xs)) α' := by
          have sx : Step H' F' α' H' (upd F' D (.lst xs)) α' → True := fun _ => trivial
          refine ⟨fun a u e => ?_, R'.len, R'.nd, R'.al, fun k a e g => ?_, fun k mo a e1 e2 => ?_, R'.old, fun q hq => tab_tell hD' nF' (fun ps z => by cases z) (R'.tab q hq)⟩
          · by_cases qa : a = D
            · subst qa
              rw [upd_same] at e
              cases e
              exact .inl hD'
            · rw [upd_ne qa] at e
              exact R'.fr a u e
          · rw [upd_ne (fun z => nA' (by rw [← z]; exact List.mem_of_getElem? e))]
            exact R'.sep k a e g
          · have h0 := R'.obj k mo a e1 e2
            have sF : Same F' (upd F' D (.lst xs)) := same_new nF'
            cases mo with
            | lst ds => obtain ⟨xs, h1, h2⟩ := h0; exact ⟨xs, h1, h2.mono sF⟩
            | dct ks ds => obtain ⟨kvs, h1, h2, h3⟩ := h0; exact ⟨kvs, h1, h2, h3.mono sF⟩
            | ins c gs =>
              obtain ⟨dx, fs, h1, h2⟩ := h0
              have : ∀ {vs : List V} {xs' : List VL}, RepVs K T F' α' vs xs' → RepVs K T (upd F' D (.lst xs)) α' vs xs' := fun {vs xs'} h => by
                induction h with
                | nil => exact .nil
                | cons r t ih =>
                  refine .cons ?_ ih
                  rename_i d _
                  cases d with
                  | d x => exact Rep.mono sF r
                  | r k => exact r
              exact ⟨dx, fs, h1, h2.1, this h2.2⟩
            | gone => trivial
            | dcr ks gs =>
              obtain ⟨kvs, h1, h2, h3⟩ := h0
              have : ∀ {vs : List V} {xs' : List VL}, RepVs K T F' α' vs xs' → RepVs K T (upd F' D (.lst xs)) α' vs xs' := fun {vs xs'} h => by
                induction h with
                | nil => exact .nil
                | cons r t ih =>
                  refine .cons ?_ ih
                  rename_i d _
                  cases d with
                  | d x => exact Rep.mono sF r
                  | r k => exact r
              exact ⟨kvs, h1, h2, this h3⟩
            | dtp ks ds => obtain ⟨kvs, h1, h2, h3⟩ := h0; exact ⟨kvs, h1, h2, h3.mono sF⟩
            | tpm ks => exact h0
        exact at_okS (W := W) (σ := σ) (v := V.ref D) s9 R9 ⟨q, eq, po⟩ (Rep.lst upd_same (rz.mono (same_new nF')))
    · rw [if_neg hz] at eq
      cases eq
theorem dts_nil : PTs X [] (tT X.K T W0 tYs) := ⟨fun pins s σ H Q I h => pts_nil.run pins s σ H Q I (by
  obtain ⟨ρ, M, F, α, L, R, h⟩ := rd_to h
  exact at_ok (v := true) R h rfl)⟩
theorem dts_one {c : Expr} {t : TX} (h : PT X c (tT X.K T W0 t)) : PTs X [c] (tT X.K T W0 t) := pts_one h
theorem de_lc {elt tg iter : Expr} {ifs : List Expr} {scope : Scope} {own : List (Str × Nat)} {pos : Pos} {g : TG} (hc : X.calm = true) (hN : X.N.Nodup) (hi : PI X tg iter (iD X.K T W it)) (ok : BlkOk X.N X.env.scope scope own)
    (hg : ∀ (s : Shared) (H : Hp) (C : Addr) (cl : List (Str × Addr)) (fp : List Addr), PG (X.blk s H scope (compEnvC scope cl C X.env) fp) tg g) (ht : ∀ (s : Shared) (H : Hp) (C : Addr) (cl : List (Str × Addr)) (fp : List Addr), PTs (X.blk s H scope (compEnvC scope cl C X.env) fp) ifs (tT X.K T W0 t))
    (he : ∀ (s : Shared) (H : Hp) (C : Addr) (cl : List (Str × Addr)) (fp : List Addr), PE (X.blk s H scope (compEnvC scope cl C X.env) fp) elt (tE X.K T W0 e)) (hb : BdOk X.K T g (own.map (·.2)) bd) (hs : ∀ x, foldedSetIterable iter X.env x = pure x := by intro _; rfl) :
    PE X (.ListComp elt [⟨tg, iter, ifs, 0⟩] scope pos) (tE X.K T W (eLc (own.map (·.2)) bd it t e)) :=
  peImp (pe_lc hc hN hi ok hg ht he hs) fun σ H Q h => lc_read hb h
theorem ds_setLc {i : Nat} {y : Str} {py : Pos} {elt tg iter : Expr} {ifs : List Expr} {scope : Scope} {own : List (Str × Nat)} {pos spos : Pos} {g : TG} (hc : X.calm = true) (hN : X.N.Nodup) (hi : PI X tg iter (iD X.K T W it)) (ok : BlkOk X.N X.env.scope scope own)
    (hg : ∀ (s : Shared) (H : Hp) (C : Addr) (cl : List (Str × Addr)) (fp : List Addr), PG (X.blk s H scope (compEnvC scope cl C X.env) fp) tg g) (ht : ∀ (s : Shared) (H : Hp) (C : Addr) (cl : List (Str × Addr)) (fp : List Addr), PTs (X.blk s H scope (compEnvC scope cl C X.env) fp) ifs (tT X.K T W0 t))
    (he : ∀ (s : Shared) (H : Hp) (C : Addr) (cl : List (Str × Addr)) (fp : List Addr), PE (X.blk s H scope (compEnvC scope cl C X.env) fp) elt (tE X.K T W0 e)) (hb : BdOk X.K T g (own.map (·.2)) bd)
    (hy : X.N[i]? = some y := by rfl) (hyl : X.env.scope.names.lookup y = some .local := by rfl) (hsw : swapsWith (.ListComp elt [⟨tg, iter, ifs, 0⟩] scope pos) (some (.Name y py)) spos.line X.env = pure true := by exact sw_true rfl rfl rfl (by decide +kernel))
    (hs : ∀ x, foldedSetIterable iter X.env x = pure x := by intro _; rfl) :
    PS X (.Assign [.Name y py] (.ListComp elt [⟨tg, iter, ifs, 0⟩] scope pos) spos) (tS X.K T W (sAsg i (eLc (own.map (·.2)) bd it t e))) := by
  refine psImp (ps_setLc (i := i) hc hN hy hyl hsw hi ok hg ht he hs) fun D σ H h => ?_
  refine lc_read (W := W) hb ?_
  obtain ⟨ρ, M, F, α, L, R, h⟩ := tS_to h
  refine rd_of L R (atS_bind L h fun v M1 u H1 F1 α1 s R1 r h => ?_)
  exact atS_nx ((L.mono s).set r) R1 h
end
/-- what a def hands back; n: how many mutable objects there were; fz: a new list or dict that it hands back never changes again -/
def retM (fz : Bool) (n : Nat) (M : MH) : VL → Option (Rs VL)
  | .d x => some (.ok (.d x) (M.take n))
  | .r k => if k < n then some (.ok (.r k) (M.take n)) else match M[k]? with
    | some (.lst ds) => if fz = true then some (.ok (.d (.lst ds)) (M.take n)) else some (.ok (.r n) (M.take n ++ [.lst ds]))
    | some (.dct ks ds) => if fz = true then some (.ok (.d (.dct ks ds)) (M.take n)) else some (.ok (.r n) (M.take n ++ [.dct ks ds]))
    | some (.dtp ks ds) => some (.ok (.r n) (M.take n ++ [.dtp ks ds]))
    | _ => none
def runFn (fz : Bool) (ar sl : Nat) (b : SX) : Fn := fun xs M => if xs.length = ar then (match b (xs.map some ++ List.replicate (sl - xs.length) none) M with
  | some (.nx, _, M') => some (.ok (.d .non) (M'.take M.length))
  | some (.rt v, _, M') => retM fz M.length M' v
  | some (.ex c ds, _, M') => some (.ex c ds (M'.take M.length))
  | _ => none) else none
section
variable {K : PySem.W.Frag} {T : Tb} {F H H' F' : Hp} {α α' : List Addr} {M M' : MH}
theorem RepVs.sameF {F' : Hp} (e : Same F F') : ∀ {vs : List V} {xs : List VL}, RepVs K T F α vs xs → RepVs K T F' α vs xs
  | _, _, .nil => .nil
  | _, _, .cons (d := .d x) r t => .cons (d := .d x) (Rep.mono e r) (RepVs.sameF e t)
  | _, _, .cons (d := .r k) r t => .cons (d := .r k) r (RepVs.sameF e t)
theorem RepVs.old {β : List Addr} {k : Nat} (hk : k ≤ α.length) : ∀ {vs : List V} {xs : List VL}, RepVs K T F (α ++ β) vs xs → (∀ x ∈ xs, ∀ j, x = .r j → j < k) → RepVs K T F α vs xs
  | _, _, .nil, _ => .nil
  | _, _, .cons (d := .d x) r t, h => .cons (d := .d x) r (RepVs.old hk t fun x m => h x (List.mem_cons_of_mem _ m))
  | _, _, .cons (d := .r j) r t, h => .cons (d := .r j) (by
      obtain ⟨a, e, q⟩ := r
      have lj := h (.r j) List.mem_cons_self j rfl
      rw [List.getElem?_append_left (by omega)] at e
      exact ⟨a, e, q⟩) (RepVs.old hk t fun x m => h x (List.mem_cons_of_mem _ m))
/-- the newer mutable objects are forgotten -/
theorem pre_take (R : HR K T H M F α) (s : Step H F α H' F' α') : α'.take M.length = α := by
  obtain ⟨β, rfl⟩ := s.pre
  rw [← R.len]
  simp
theorem HR.cut (R : HR K T H M F α) (R' : HR K T H' M' F' α') (s : Step H F α H' F' α') : HR K T H' (M'.take M.length) F' α := by
  have ea := pre_take R s
  obtain ⟨β, rfl⟩ := s.pre
  have l1 := R.len
  have l2 := R'.len
  have lm : M.length ≤ M'.length := by rw [← l1, ← l2]; simp
  have gm : ∀ {k : Nat}, k < M.length → (M'.take M.length)[k]? = M'[k]? := fun {k} h => by rw [List.getElem?_take, if_pos h]
  have lkm : ∀ {k : Nat} {mo : MO}, (M'.take M.length)[k]? = some mo → k < M.length := fun {k mo} e => by
    have := (List.getElem?_eq_some_iff.mp e).1
    rw [List.length_take] at this
    omega
  refine ⟨R'.fr, by simp [l1]; omega, R.nd, fun a m => R'.al a (List.mem_append_left _ m), fun k a e g => ?_, fun k mo a e1 e2 => ?_, fun k mo e => ?_, fun q hq => ⟨(R'.tab q hq).1, (R'.tab q hq).2.1, fun m => (R'.tab q hq).2.2 (List.mem_append_left _ m)⟩⟩
  · have lk : k < M.length := by
      have := (List.getElem?_eq_some_iff.mp e).1
      omega
    exact R'.sep k a (pre_get e) fun z => g (by rw [gm lk]; exact z)
  · have lk : k < M.length := lkm e1
    rw [gm lk] at e1
    have h0 := R'.obj k mo a e1 (pre_get e2)
    have h9 := R'.old k mo e1
    cases mo with
    | lst ds => exact h0
    | dct ks ds => exact h0
    | gone => trivial
    | dtp ks ds => exact h0
    | tpm ks => exact h0
    | dcr ks gs =>
      obtain ⟨kvs, h1, h2, h3⟩ := h0
      exact ⟨kvs, h1, h2, h3.old (k := k) (by omega) h9⟩
    | ins c gs =>
      obtain ⟨dx, fs, h1, h2, h3⟩ := h0
      refine ⟨dx, fs, h1, h2, ?_⟩
      have h9 : ∀ g ∈ gs, ∀ j, g.2 = .r j → j < k := h9
      clear e1 h1 h2
      have : ∀ {vs : List V} {xs : List VL}, RepVs K T F' (α ++ β) vs xs → (∀ x ∈ xs, ∀ j, x = .r j → j < k) → RepVs K T F' α vs xs := fun {vs xs} h => by
        induction h with
        | nil => exact fun _ => .nil
        | cons r t ih =>
          intro hx
          refine .cons ?_ (ih fun x m => hx x (List.mem_cons_of_mem _ m))
          rename_i v vs d ds
          cases d with
          | d x => exact r
          | r j =>
            obtain ⟨a, e, rfl⟩ := r
            have lj := hx (.r j) List.mem_cons_self j rfl
            rw [List.getElem?_append_left (by omega)] at e
            exact ⟨a, e, rfl⟩
      refine this h3 fun x m j ej => ?_
      obtain ⟨g, mg, eg⟩ := List.mem_map.mp m
      exact h9 g mg j (eg.trans ej)
  · rw [gm (lkm e)] at e
    exact R'.old k mo e
theorem step_cut (R : HR K T H M F α) (R' : HR K T H' M' F' α') (s : Step H F α H' F' α') : Step H F α H' F' α := ⟨s.ext, ⟨[], by simp⟩, fun a o h n f => by
  obtain ⟨h1, h2, h3⟩ := s.keep a o h n f
  exact ⟨h1, h2, n⟩⟩
/-- an object that stands at a is told from now on -/
theorem HR.tell {a : Addr} {o : HO} (R : HR K T H M F α) (h : H a = some o) (n : a ∉ α) (f : F a = none) (ht : ∀ ps, o ≠ .tbl ps := by intro ps z; cases z) : HR K T H M (upd F a o) α := by
  have sF : Same F (upd F a o) := same_new f
  refine ⟨fun b u e => ?_, R.len, R.nd, R.al, fun k b e g => ?_, fun k mo b e1 e2 => ?_, R.old, fun q hq => tab_tell h f ht (R.tab q hq)⟩
  · by_cases qa : b = a
    · subst qa
      rw [upd_same] at e
      cases e
      exact .inl h
    · rw [upd_ne qa] at e
      exact R.fr b u e
  · rw [upd_ne (fun z => n (by rw [← z]; exact List.mem_of_getElem? e))]
    exact R.sep k b e g
  · have h0 := R.obj k mo b e1 e2
    cases mo with
    | lst ds => obtain ⟨xs, h1, h2⟩ := h0; exact ⟨xs, h1, h2.mono sF⟩
    | dct ks ds => obtain ⟨kvs, h1, h2, h3⟩ := h0; exact ⟨kvs, h1, h2, h3.mono sF⟩
    | ins c gs =>
      obtain ⟨dx, fs, h1, h2⟩ := h0
      have : ∀ {vs : List V} {xs' : List VL}, RepVs K T F α vs xs' → RepVs K T (upd F a o) α vs xs' := fun {vs xs'} h => by
        induction h with
        | nil => exact .nil
        | cons r t ih =>
          refine .cons ?_ ih
          rename_i d _
          cases d with
          | d x => exact Rep.mono sF r
          | r k => exact r
      exact ⟨dx, fs, h1, h2.1, this h2.2⟩
    | gone => trivial
    | dcr ks gs => obtain ⟨kvs, h1, h2, h3⟩ := h0; exact ⟨kvs, h1, h2, h3.sameF sF⟩
    | dtp ks ds => obtain ⟨kvs, h1, h2, h3⟩ := h0; exact ⟨kvs, h1, h2, h3.mono sF⟩
    | tpm ks => exact h0
end
section
variable {P : Program} {w : World} {K : PySem.W.Frag} {mg : Str → Option Value} {base : Heap} {T : Tb} {x qual : Str} {params : Arguments} {body : List Stmt} {scope : Scope} {dvs : List V} {kws : List (Str × V)} {f : Addr} {fd : FuncData}
theorem at_ret {W : WX} {H F : Hp} {α : List Addr} {M : MH} {Q : VK} {fz : Bool} {M' : MH} {v : VL} (R : HR K T H M F α) (h : at_ K T W (RepV K T) [] H F α Q (retM fz M.length M' v)) {u : V} {H' F' : Hp} {α' : List Addr} (R' : HR K T H' M' F' α') (s : Step H F α H' F' α') (r : RepV K T F' α' u v) : Q u H' := by
  obtain ⟨q, e, po⟩ := h
  have Rc := R.cut R' s
  have sc := step_cut R R' s
  have la := R.len
  cases v with
  | d y => exact at_okS (W := W) (σ := []) sc Rc ⟨q, e, po⟩ r
  | r k =>
    obtain ⟨a, ea, rfl⟩ := r
    dsimp only [retM] at e
    by_cases hk : k < M.length
    · rw [if_pos hk] at e
      refine at_okS (W := W) (σ := []) sc Rc ⟨q, e, po⟩ ⟨a, ?_, rfl⟩
      obtain ⟨β, rfl⟩ := s.pre
      rw [List.getElem?_append_left (by omega)] at ea
      exact ea
    · rw [if_neg hk] at e
      cases hm : M'[k]? with
      | none => rw [hm] at e; cases e
      | some mo =>
        rw [hm] at e
        have ok := R'.obj k mo a hm ea
        have ng : mo ≠ MO.gone → F' a = none := fun g => R'.sep k a ea fun z => g (by rw [hm] at z; exact Option.some.inj z)
        have nα : a ∉ α := fun m => by
          obtain ⟨β, rfl⟩ := s.pre
          obtain ⟨j, hj, ej⟩ := List.getElem_of_mem m
          obtain ⟨l1, q1⟩ := List.getElem?_eq_some_iff.mp ea
          have q2 : (α ++ β)[j]'(by simp; omega) = a := by rw [List.getElem_append_left hj]; exact ej
          have := (List.getElem_inj R'.nd).mp (q2.trans q1.symm)
          omega
        have hnew : H a = none ∨ F a ≠ none := by
          cases hh : H a with
          | none => exact .inl rfl
          | some o =>
            refine .inr fun ff => ?_
            obtain ⟨_, _, n3⟩ := s.keep a o hh nα ff
            exact n3 (List.mem_of_getElem? ea)
        have hH : F' a = none → H a = none := fun z => by
          rcases hnew with h1 | h1
          · exact h1
          · cases hf : F a with
            | none => exact absurd hf h1
            | some o => rw [s.ext a o hf] at z; cases z
        have keep : F' a = none → ∀ b o, H b = some o → b ∉ α → F b = none → KpT H' b o ∧ (F' b = none ∧ b ≠ a) ∧ b ∉ α := fun fa b o hb nb fb => by
          obtain ⟨k1, k2, k3⟩ := sc.keep b o hb nb fb
          exact ⟨k1, ⟨k2, fun z => by rw [z, hH fa] at hb; cases hb⟩, k3⟩
        have newR : ∀ {mo : MO}, MOk K T F' α H' a mo → (∃ o, H' a = some o ∧ ∀ ps, o ≠ .tbl ps) → F' a = none → Old M.length mo → (retM fz M.length M' (.r k) = some (.ok (.r M.length) (M'.take M.length ++ [mo])) → True) → q = .ok (.r M.length) (M'.take M.length ++ [mo]) → Q (.ref a) H' := fun {mo} ok hne fa ho _ eq => by
          have lt : (M'.take M.length).length = M.length := by rw [← Rc.len, la]
          have R2 := Rc.adopt (by obtain ⟨_, e, _⟩ := hne; rw [e]; simp) nα fa ok.more (by rw [lt]; exact ho) (by obtain ⟨_, e, z⟩ := hne; exact fun ps e2 => z ps (Option.some.inj (e.symm.trans e2)))
          refine at_okS (W := W) (σ := []) (v := V.ref a) (b := VL.r M.length) ⟨sc.ext, ⟨[a], rfl⟩, fun b o hb nb fb => ?_⟩ R2 ⟨q, by rw [eq], po⟩ ⟨a, ?_, rfl⟩
          · obtain ⟨k1, ⟨k2, k4⟩, k3⟩ := keep fa b o hb nb fb
            exact ⟨k1, k2, by simp only [List.mem_append, List.mem_singleton, not_or]; exact ⟨k3, k4⟩⟩
          · rw [← la, List.getElem?_append_right (Nat.le_refl _)]
            simp
        cases mo with
        | ins c gs => cases e
        | gone => cases e
        | dcr ks gs => cases e
        | tpm ks => cases e
        | dtp ks ds =>
          obtain ⟨kvs, h1, h2, h3⟩ := ok
          have fa := ng (by intro z; cases z)
          dsimp only at e
          exact newR (mo := MO.dtp ks ds) ⟨kvs, h1, h2, h3⟩ ⟨_, h1, fun ps z => by cases z⟩ fa trivial (fun _ => trivial) (Option.some.inj e).symm
        | lst ds =>
          obtain ⟨xs, h1, h2⟩ := ok
          have fa := ng (by intro z; cases z)
          dsimp only at e
          cases fz with
          | true =>
            rw [if_pos rfl] at e
            have R2 := Rc.tell h1 nα fa
            refine at_okS (W := W) (σ := []) (v := V.ref a) ⟨sc.ext.trans (same_new fa), sc.pre, fun b o hb nb fb => ?_⟩ R2 ⟨q, e, po⟩ (Rep.lst upd_same (h2.mono (same_new fa)))
            obtain ⟨k1, ⟨k2, k4⟩, k3⟩ := keep fa b o hb nb fb
            exact ⟨k1, by rw [upd_ne k4]; exact k2, k3⟩
          | false =>
            rw [if_neg Bool.false_ne_true] at e
            exact newR (mo := MO.lst ds) ⟨xs, h1, h2⟩ ⟨_, h1, fun ps z => by cases z⟩ fa trivial (fun _ => trivial) (Option.some.inj e).symm
        | dct ks ds =>
          obtain ⟨kvs, h1, h2, h3⟩ := ok
          have fa := ng (by intro z; cases z)
          dsimp only at e
          cases fz with
          | true =>
            rw [if_pos rfl] at e
            have R2 := Rc.tell h1 nα fa
            refine at_okS (W := W) (σ := []) (v := V.ref a) ⟨sc.ext.trans (same_new fa), sc.pre, fun b o hb nb fb => ?_⟩ R2 ⟨q, e, po⟩ (Rep.dct (.inl upd_same) h2 rfl (h3.mono (same_new fa)))
            obtain ⟨k1, ⟨k2, k4⟩, k3⟩ := keep fa b o hb nb fb
            exact ⟨k1, by rw [upd_ne k4]; exact k2, k3⟩
          | false =>
            rw [if_neg Bool.false_ne_true] at e
            exact newR (mo := MO.dct ks ds) ⟨kvs, h1, h2, h3⟩ ⟨_, h1, fun ps z => by cases z⟩ fa trivial (fun _ => trivial) (Option.some.inj e).symm
theorem LR.start {F : Hp} {α : List Addr} {N : List Str} : ∀ {vs : List V} {xs : List VL}, RepVs K T F α vs xs → LR K T F α (L2.start N vs) (xs.map some ++ List.replicate (N.length - xs.length) none) := fun {vs xs} h => by
  have hl := h.length
  refine ⟨by simp [L2.start, hl], fun i vl e => ?_⟩
  unfold L2.start
  by_cases q : i < xs.length
  · rw [List.getElem?_append_left (by simpa using q)] at e
    rw [List.getElem?_append_left (by simp; omega)]
    rw [List.getElem?_map] at e ⊢
    have : ∀ {vs : List V} {xs : List VL} {i : Nat} {vl : VL}, RepVs K T F α vs xs → xs[i]? = some vl → ∃ v, vs[i]? = some v ∧ RepV K T F α v vl := fun {vs xs} {i vl} h => by
      intro e
      induction h generalizing i with
      | nil => simp at e
      | cons r t ih =>
        cases i with
        | zero =>
          have e' := Option.some.inj (show some _ = some vl from e)
          subst e'
          exact ⟨_, rfl, r⟩
        | succ i => exact ih (i := i) (by simpa using e)
    cases hx : xs[i]? with
    | none => rw [hx] at e; cases e
    | some x =>
      rw [hx] at e
      have e' : x = vl := by simpa using e
      subst e'
      obtain ⟨v, h1, h2⟩ := this h hx
      exact ⟨v, by rw [h1]; rfl, h2⟩
  · rw [List.getElem?_append_right (by simpa using q)] at e
    rw [List.getElem?_replicate] at e
    split at e <;> cases e
/-- THE RULE: a def keeps its function's promise -/
theorem fn_ok {N ps : List Str} {k : Nat} {b : SX} {fz : Bool} (F : FunD K x qual params body scope dvs kws f fd) (S : FnScope N ps scope)
    (hb : ∀ (cdv : Value) (A : Around) (outer : List Env) (s : Shared) (H : Hp) (E : XK), Room k (A.deeper (envOfC qual scope s.heap.objs.size f cdv)) → PSs (cxOf (L2N.CX P w) P w K mg base N qual scope f cdv A outer s H E) body (tS K T (fun c d _ H' => E c d H') b)) :
    FnOk P w K mg base (L2N.CX P w) (k + 1) f fd ps (fnD K T (runFn fz ps.length N.length b)) := by
  have len : ∀ vs H Q E, fnD K T (runFn fz ps.length N.length b) vs H Q E → vs.length = ps.length := fun vs H Q E h => by
    obtain ⟨M, F, α, xs, R, r, q, e, po⟩ := h
    unfold runFn at e
    by_cases hl : xs.length = ps.length
    · rw [r.length]; exact hl
    · rw [if_neg hl] at e; cases e
  refine F.ok S len fun cdv A outer s H vs Q E hr h => ⟨_, hb cdv A outer s H E hr, ?_⟩
  obtain ⟨M, F, α, xs, R, r, q, e, po⟩ := h
  have hl : xs.length = ps.length := by
    rw [← r.length]; exact len vs H Q E ⟨M, F, α, xs, R, r, q, e, po⟩
  unfold runFn at e
  rw [if_pos hl] at e
  refine tS_of (LR.start r) R ?_
  cases hq : b (xs.map some ++ List.replicate (N.length - xs.length) none) M with
  | none => rw [hq] at e; cases e
  | some z =>
    obtain ⟨fl, ρ', M'⟩ := z
    rw [hq] at e
    refine ⟨_, rfl, ?_⟩
    cases fl with
    | nx => exact fun σ' H' F' α' L' R' s' => at_okS (Q := Q) (v := V.non) (b := VL.d .non) (Rl := RepV K T) (W := fun c d _ H' => E c d H') (σ := []) (step_cut R R' s') (R.cut R' s') ⟨q, e, po⟩ Rep.non
    | bk => cases e
    | ct => cases e
    | rt v => exact fun u H' F' α' R' s' rv => at_ret R ⟨q, e, po⟩ R' s' rv
    | ex c ds =>
      have e2 := Option.some.inj e
      subst e2
      exact fun dd σ' H' F' α' L' R' s' x => po dd H' F' α (R.cut R' s') (step_cut R R' s') x
end
/-- the program's functions by level: how a def's result is handed back, its parameters, its slots, its body -/
abbrev Body := Bool × Nat × Nat × ((Nat → Fn) → SX)
def GG (tab : Nat → Option Body) : Nat → Nat → Fn
  | 0, _ => fun _ _ => none
  | n + 1, f => match tab f with
    | some (fz, ar, sl, b) => runFn fz ar sl (b (GG tab n))
    | none => fun _ _ => none
end Mi
namespace Mi
open PySem PySem.Spec PyProof.Rows L2
def addD : PD → PD → Option PD
  | .int i, .int j => some (.int (i + j))
  | .str a, .str b => if a.length + b.length ≤ sizeLine then some (.str (a ++ b)) else none
  | .tup a, .tup b => if a.length + b.length ≤ sizeLine then some (.tup (a ++ b)) else none
  | .lst a, .lst b => if a.length + b.length ≤ sizeLine then some (.lst (a ++ b)) else none
  | _, _ => none
def subD : PD → PD → Option PD
  | .int i, .int j => some (.int (i - j))
  | _, _ => none
def mulD : PD → PD → Option PD
  | .int i, .int j => if i.natAbs.log2 + j.natAbs.log2 < 1000000 then some (.int (i * j)) else none
  | .lst a, .int k => if -(2 ^ 63) ≤ k ∧ k < 2 ^ 63 ∧ a.length * k.toNat ≤ sizeLine then some (.lst (List.replicate k.toNat a).flatten) else none
  | _, _ => none
def fdivD : PD → PD → Option PD
  | .int i, .int j => if 0 < j ∧ j.natAbs.log2 < 9000 then some (.int (i / j)) else none
  | _, _ => none
def modD : PD → PD → Option PD
  | .int i, .int j => if 0 < j then some (.int (i % j)) else none
  | _, _ => none
def powD : PD → PD → Option PD
  | .int i, .int j => if 0 ≤ j ∧ j ≤ 1000000 ∧ i.natAbs < 2 ^ 64 then some (.int (i ^ j.toNat)) else none
  | _, _ => none
def negD : PD → Option PD
  | .int i => some (.int (-i))
  | _ => none
def ltD : PD → PD → Option PD
  | .int i, .int j => some (.bl (decide (i < j)))
  | _, _ => none
def leD : PD → PD → Option PD
  | .int i, .int j => some (.bl (decide (i ≤ j)))
  | _, _ => none
def gtD : PD → PD → Option PD
  | .int i, .int j => some (.bl (decide (j < i)))
  | _, _ => none
def geD : PD → PD → Option PD
  | .int i, .int j => some (.bl (decide (j ≤ i)))
  | _, _ => none
def isN : PD → Bool
  | .non => true
  | _ => false
def isD : PD → PD → Option PD
  | x, .non => some (.bl (isN x))
  | .bl a, .bl b => some (.bl (decide (a = b)))
  | _, _ => none
def isnotD : PD → PD → Option PD
  | x, .non => some (.bl (!isN x))
  | .bl a, .bl b => some (.bl (!decide (a = b)))
  | _, _ => none
def idxD : PD → PD → Option PD
  | .lst a, .int i => atI a i
  | .scr a, .int i => atI a i
  | .tup a, .int i => atI a i
  | .str z, .int i => if z.length ≤ sizeLine then (match atI z.cps.toList i with
    | some c => some (.str ⟨#[c]⟩)
    | none => none) else none
  | _, _ => none
def lenD : List PD → Option PD
  | [.lst a] => some (.int a.length)
  | [.scr a] => some (.int a.length)
  | [.tup a] => some (.int a.length)
  | [.str z] => if z.length ≤ sizeLine then some (.int z.length) else none
  | _ => none
def absD : List PD → Option PD
  | [.int i] => some (.int (if i < 0 then -i else i))
  | _ => none
def intD : List PD → Option PD
  | [.int i] => some (.int i)
  | [.bl k] => some (.int (if k then 1 else 0))
  | _ => none
def min2D : List PD → Option PD
  | [.int i, .int j] => some (.int (if j < i then j else i))
  | _ => none
def max2D : List PD → Option PD
  | [.int i, .int j] => some (.int (if j > i then j else i))
  | _ => none
def blsOf : List PD → Option (List Bool)
  | [] => some []
  | .bl b :: r => (match blsOf r with
    | some bs => some (b :: bs)
    | none => none)
  | _ :: _ => none
def intsOf : List PD → Option (List Int)
  | [] => some []
  | .int b :: r => (match intsOf r with
    | some bs => some (b :: bs)
    | none => none)
  | _ :: _ => none
/-- str: of a whole number, of a text; of a tuple of whole numbers some text -/
def smallNs (ns : List Int) : Bool := decide (ns.length ≤ 10000) && ns.all fun n => decide (-1000 ≤ n) && decide (n ≤ 1000)
def strD : List PD → Option PD
  | [.int i] => if i.natAbs.log2 < 1920 then some (.str (toString i)) else none
  | [.str x] => some (.str x)
  | [.tup ds] => (match intsOf ds with
    | some ns => if smallNs ns = true then some .unk else none
    | none => none)
  | _ => none
def allD : List PD → Option PD
  | [.lst a] => (match blsOf a with
    | some bs => some (.bl (bs.all id))
    | none => none)
  | [.scr a] => (match blsOf a with
    | some bs => some (.bl (bs.all id))
    | none => none)
  | _ => none
def anyD : List PD → Option PD
  | [.lst a] => (match blsOf a with
    | some bs => some (.bl (bs.any id))
    | none => none)
  | [.scr a] => (match blsOf a with
    | some bs => some (.bl (bs.any id))
    | none => none)
  | _ => none
def listD : List PD → Option PD
  | [.lst a] => some (.lst a)
  | [.scr a] => some (.lst a)
  | [.tup a] => some (.lst a)
  | _ => none
def tupleD : List PD → Option PD
  | [.lst a] => some (.tup a)
  | [.scr a] => some (.tup a)
  | [.tup a] => some (.tup a)
  | _ => none
section
variable {X : Cx} {T : Tb}
theorem Top.lst_sq {K : PySem.W.Frag} {F H : Hp} {α : List Addr} {M : MH} {v : V} (R : HR K T H M F α) {ds : List PD} (h : Top K T F H v (.lst ds)) : ∃ a xs, v = .ref a ∧ SqL K H a xs ∧ Reps K T F xs ds := by
  obtain ⟨a, xs, e, h1, h2⟩ := h.lst R
  exact ⟨a, xs, e, SqL.of h1, h2⟩
theorem Reps.atI {K : PySem.W.Frag} {F : Hp} {vs : List V} {ds : List PD} {i : Int} {d : PD} (r : Reps K T F vs ds) (e : atI ds i = some d) : ∃ v, L2.atI vs i = some v ∧ Rep K T F v d := by
  unfold L2.atI at e ⊢
  rw [r.length]
  cases h : ixN ds.length i with
  | none => rw [h] at e; cases e
  | some j =>
    rw [h] at e
    exact r.get e
theorem Reps.bls {K : PySem.W.Frag} {F : Hp} : ∀ {vs : List V} {ds : List PD} {bs : List Bool}, Reps K T F vs ds → blsOf ds = some bs → vs = bs.map V.bl
  | _, [], bs, .nil, e => by
    have q : [] = bs := Option.some.inj e
    subst q
    rfl
  | _, .bl b :: ds, bs, .cons r t, e => by
    unfold blsOf at e
    cases h2 : blsOf ds with
    | none => rw [h2] at e; cases e
    | some as =>
      rw [h2] at e
      dsimp only at e
      have q : b :: as = bs := Option.some.inj e
      subst q
      cases r
      rw [Reps.bls t h2]
      rfl
  | _, .non :: _, _, _, e => by cases e
  | _, .int _ :: _, _, _, e => by cases e
  | _, .str _ :: _, _, _, e => by cases e
  | _, .tup _ :: _, _, _, e => by cases e
  | _, .lst _ :: _, _, _, e => by cases e
  | _, .scr _ :: _, _, _, e => by cases e
  | _, .dct _ _ :: _, _, _, e => by cases e
  | _, .ins _ _ :: _, _, _, e => by cases e
theorem Reps.ints {K : PySem.W.Frag} {F : Hp} : ∀ {vs : List V} {ds : List PD} {bs : List Int}, Reps K T F vs ds → intsOf ds = some bs → vs = bs.map V.int
  | _, [], bs, .nil, e => by
    have q : [] = bs := Option.some.inj e
    subst q
    rfl
  | _, .int b :: ds, bs, .cons r t, e => by
    unfold intsOf at e
    cases h2 : intsOf ds with
    | none => rw [h2] at e; cases e
    | some as =>
      rw [h2] at e
      dsimp only at e
      have q : b :: as = bs := Option.some.inj e
      subst q
      cases r
      rw [Reps.ints t h2]
      rfl
  | _, .non :: _, _, _, e => by cases e
  | _, .bl _ :: _, _, _, e => by cases e
  | _, .str _ :: _, _, _, e => by cases e
  | _, .tup _ :: _, _, _, e => by cases e
  | _, .lst _ :: _, _, _, e => by cases e
  | _, .scr _ :: _, _, _, e => by cases e
  | _, .dct _ _ :: _, _, _, e => by cases e
  | _, .ins _ _ :: _, _, _, e => by cases e
theorem dop_add : OpR X (binaryOp .Add) (rP2 X.K T addD) := by
  intro pins s σ H x y v w Q I rx ry hw
  obtain ⟨M, F, α, dx, dy, c, R, tx, ty, e, fin⟩ := hw
  unfold addD at e
  split at e
  · have q := Option.some.inj e
    subst q
    obtain rfl := tx.int
    obtain rfl := ty.int
    exact op_add pins s σ H _ _ v w Q I rx ry ⟨_, _, rfl, rfl, fin.int R⟩
  · split at e
    · have q := Option.some.inj e
      subst q
      obtain rfl := tx.str
      obtain rfl := ty.str
      exact op_add_str pins s σ H _ _ v w Q I rx ry ⟨_, _, rfl, rfl, by assumption, fin.str R⟩
    · cases e
  · split at e
    · rename_i hl
      have q := Option.some.inj e
      subst q
      obtain ⟨a, xs, rfl, h1, f1, r1⟩ := tx.tup R
      obtain ⟨b, ys, rfl, h2, f2, r2⟩ := ty.tup R
      refine op_catA pins s σ H _ _ v w Q I rx ry ⟨a, b, xs, ys, rfl, rfl, h1, h2, by rw [r1.length, r2.length]; exact hl, fun z => ?_, fun _ z => ?_, fun _ _ p hp => ?_⟩
      · subst z
        cases r1
        exact fin.old R (.tup f2 r2)
      · subst z
        cases r2
        rw [List.append_nil] at fin
        exact fin.old R (.tup f1 r1)
      · exact fin.tup R (r1.append r2) hp
    · cases e
  · split at e
    · rename_i hl
      have q := Option.some.inj e
      subst q
      obtain ⟨a, xs, rfl, h1, r1⟩ := tx.lst R
      obtain ⟨b, ys, rfl, h2, r2⟩ := ty.lst R
      exact op_cat pins s σ H _ _ v w Q I rx ry ⟨a, b, xs, ys, rfl, rfl, h1, h2, by rw [r1.length, r2.length]; exact hl, fun p hp => fin.lst R (r1.append r2) hp⟩
    · cases e
  · cases e
theorem dop_int {f : Value → Value → Sem Value} {g : Int → Int → PD} {D : PD → PD → Option PD} {C : Int → Int → Prop} {u : Int → Int → V} (ho : OpR X f (rI C u))
    (h1 : ∀ x y c, D x y = some c → ∃ i j, x = .int i ∧ y = .int j ∧ C i j ∧ c = g i j) (h2 : ∀ i j F, Rep X.K T F (u i j) (g i j)) : OpR X f (rP2 X.K T D) := by
  intro pins s σ H x y v w Q I rx ry hw
  obtain ⟨M, F, α, dx, dy, c, R, tx, ty, e, fin⟩ := hw
  obtain ⟨i, j, rfl, rfl, hc, rfl⟩ := h1 _ _ _ e
  obtain rfl := tx.int
  obtain rfl := ty.int
  exact ho pins s σ H _ _ v w Q I rx ry ⟨_, _, rfl, rfl, hc, fin.old R (h2 _ _ _)⟩
theorem dop_int0 {f : Value → Value → Sem Value} {g : Int → Int → PD} {D : PD → PD → Option PD} {u : Int → Int → V} (ho : OpR X f (rI0 u))
    (h1 : ∀ x y c, D x y = some c → ∃ i j, x = .int i ∧ y = .int j ∧ c = g i j) (h2 : ∀ i j F, Rep X.K T F (u i j) (g i j)) : OpR X f (rP2 X.K T D) := by
  intro pins s σ H x y v w Q I rx ry hw
  obtain ⟨M, F, α, dx, dy, c, R, tx, ty, e, fin⟩ := hw
  obtain ⟨i, j, rfl, rfl, rfl⟩ := h1 _ _ _ e
  obtain rfl := tx.int
  obtain rfl := ty.int
  exact ho pins s σ H _ _ v w Q I rx ry ⟨_, _, rfl, rfl, fin.old R (h2 _ _ _)⟩
theorem dop_sub : OpR X (binaryOp .Sub) (rP2 X.K T subD) := dop_int0 (g := fun i j => .int (i - j)) op_sub (fun x y c e => by
  unfold subD at e
  split at e
  · exact ⟨_, _, rfl, rfl, (Option.some.inj e).symm⟩
  · cases e) fun _ _ _ => .int _
theorem dop_fdiv : OpR X (binaryOp .FloorDiv) (rP2 X.K T fdivD) := dop_int (g := fun i j => .int (i / j)) op_fdivW (fun x y c e => by
  unfold fdivD at e
  split at e
  · split at e
    · exact ⟨_, _, rfl, rfl, by assumption, (Option.some.inj e).symm⟩
    · cases e
  · cases e) fun _ _ _ => .int _
theorem dop_mod : OpR X (binaryOp .Mod) (rP2 X.K T modD) := dop_int (g := fun i j => .int (i % j)) op_mod (fun x y c e => by
  unfold modD at e
  split at e
  · split at e
    · exact ⟨_, _, rfl, rfl, by assumption, (Option.some.inj e).symm⟩
    · cases e
  · cases e) fun _ _ _ => .int _
theorem dop_pow : OpR X (binaryOp .Pow) (rP2 X.K T powD) := dop_int (g := fun i j => .int (i ^ j.toNat)) op_pow (fun x y c e => by
  unfold powD at e
  split at e
  · split at e
    · exact ⟨_, _, rfl, rfl, by assumption, (Option.some.inj e).symm⟩
    · cases e
  · cases e) fun _ _ _ => .int _
theorem dop_lt : OpR X (compareOp .Lt) (rP2 X.K T ltD) := dop_int0 (g := fun i j => .bl (decide (i < j))) op_lt (fun x y c e => by
  unfold ltD at e
  split at e
  · exact ⟨_, _, rfl, rfl, (Option.some.inj e).symm⟩
  · cases e) fun _ _ _ => .bl _
theorem dop_le : OpR X (compareOp .LtE) (rP2 X.K T leD) := dop_int0 (g := fun i j => .bl (decide (i ≤ j))) op_le (fun x y c e => by
  unfold leD at e
  split at e
  · exact ⟨_, _, rfl, rfl, (Option.some.inj e).symm⟩
  · cases e) fun _ _ _ => .bl _
theorem dop_gt : OpR X (compareOp .Gt) (rP2 X.K T gtD) := dop_int0 (g := fun i j => .bl (decide (j < i))) op_gt (fun x y c e => by
  unfold gtD at e
  split at e
  · exact ⟨_, _, rfl, rfl, (Option.some.inj e).symm⟩
  · cases e) fun _ _ _ => .bl _
theorem dop_ge : OpR X (compareOp .GtE) (rP2 X.K T geD) := dop_int0 (g := fun i j => .bl (decide (j ≤ i))) op_ge (fun x y c e => by
  unfold geD at e
  split at e
  · exact ⟨_, _, rfl, rfl, (Option.some.inj e).symm⟩
  · cases e) fun _ _ _ => .bl _
theorem Reps.rep {K : PySem.W.Frag} {F : Hp} {vs : List V} {ds : List PD} (r : Reps K T F vs ds) : ∀ k : Nat, Reps K T F (List.replicate k vs).flatten (List.replicate k ds).flatten
  | 0 => .nil
  | k + 1 => by
    rw [List.replicate_succ, List.replicate_succ, List.flatten_cons, List.flatten_cons]
    exact r.append (Reps.rep r k)
theorem dop_mul : OpR X (binaryOp .Mult) (rP2 X.K T mulD) := by
  intro pins s σ H x y v w Q I rx ry hw
  obtain ⟨M, F, α, dx, dy, c, R, tx, ty, e, fin⟩ := hw
  unfold mulD at e
  split at e
  · split at e
    · rename_i hc
      have q := Option.some.inj e
      subst q
      obtain rfl := tx.int
      obtain rfl := ty.int
      exact op_mulW pins s σ H _ _ v w Q I rx ry ⟨_, _, rfl, rfl, hc, fin.int R⟩
    · cases e
  · split at e
    · rename_i hc
      have q := Option.some.inj e
      subst q
      obtain ⟨a, xs, rfl, h1, r1⟩ := tx.lst R
      obtain rfl := ty.int
      exact op_rep pins s σ H _ _ v w Q I rx ry ⟨_, _, _, rfl, rfl, h1, hc.1, hc.2.1, by rw [r1.length]; exact hc.2.2, fun p hp => fin.lst R (r1.rep _) hp⟩
    · cases e
  · cases e
theorem dun_neg : UnR X (unaryOp .USub) (rP1 X.K T negD) := by
  intro pins s σ H x v Q I rx hw
  obtain ⟨M, F, α, dx, c, R, tx, e, fin⟩ := hw
  unfold negD at e
  split at e
  · have q := Option.some.inj e
    subst q
    obtain rfl := tx.int
    exact un_neg pins s σ H _ v Q I rx ⟨_, rfl, fin.int R⟩
  · cases e
theorem top_isN {K : PySem.W.Frag} {F H : Hp} {v : V} {d : PD} (h : Top K T F H v d) : decide (v = .non) = isN d := by
  rcases h with h | h
  · cases h with
    | non => rfl
    | bl => rfl
    | int => rfl
    | str => rfl
    | tup => rfl
    | lst => rfl
    | scr => rfl
    | dct => rfl
    | ins => rfl
    | unk => rfl
    | exc0 => rfl
    | exc1 => rfl
  · cases d with
    | lst ds => obtain ⟨a, xs, rfl, _⟩ := h; rfl
    | dct ks ds => obtain ⟨a, xs, rfl, _⟩ := h; rfl
    | _ => cases h
theorem dop_is : OpR X (compareOp .Is) (rP2 X.K T isD) := by
  intro pins s σ H x y v w Q I rx ry hw
  obtain ⟨M, F, α, dx, dy, c, R, tx, ty, e, fin⟩ := hw
  unfold isD at e
  split at e
  · have q := Option.some.inj e
    subst q
    obtain rfl := ty.non
    exact op_isN pins s σ H _ _ v w Q I rx ry ⟨rfl, by rw [top_isN tx]; exact fin.bl R⟩
  · have q := Option.some.inj e
    subst q
    obtain rfl := tx.bl
    obtain rfl := ty.bl
    exact op_is_bl pins s σ H _ _ v w Q I rx ry ⟨_, _, rfl, rfl, fin.bl R⟩
  · cases e
theorem dop_isnot : OpR X (compareOp .IsNot) (rP2 X.K T isnotD) := by
  intro pins s σ H x y v w Q I rx ry hw
  obtain ⟨M, F, α, dx, dy, c, R, tx, ty, e, fin⟩ := hw
  unfold isnotD at e
  split at e
  · have q := Option.some.inj e
    subst q
    obtain rfl := ty.non
    exact op_notN pins s σ H _ _ v w Q I rx ry ⟨rfl, by rw [top_isN tx]; exact fin.bl R⟩
  · have q := Option.some.inj e
    subst q
    obtain rfl := tx.bl
    obtain rfl := ty.bl
    exact op_isnot_bl pins s σ H _ _ v w Q I rx ry ⟨_, _, rfl, rfl, fin.bl R⟩
  · cases e
theorem dix : IxR X (rP2 X.K T idxD) := by
  intro value slice pins s σ H x y v u Q I rx ry hw hs
  obtain ⟨M, F, α, dx, dy, c, R, tx, ty, e, fin⟩ := hw
  unfold idxD at e
  split at e
  · obtain ⟨a, xs, rfl, h1, r1⟩ := tx.lst_sq R
    obtain rfl := ty.int
    obtain ⟨z, h2, rz⟩ := r1.atI e
    exact ix_list value slice pins s σ H _ _ v u Q I rx ry ⟨_, _, _, _, rfl, rfl, h1, h2, fin.old R rz⟩ hs
  · obtain ⟨a, xs, rfl, h1, r1⟩ := tx.scr R
    obtain rfl := ty.int
    obtain ⟨z, h2, rz⟩ := r1.atI e
    exact ix_list value slice pins s σ H _ _ v u Q I rx ry ⟨_, _, _, _, rfl, rfl, h1, h2, fin.old R rz⟩ hs
  · obtain ⟨a, xs, rfl, h1, _, r1⟩ := tx.tup R
    obtain rfl := ty.int
    obtain ⟨z, h2, rz⟩ := r1.atI e
    exact ix_tup value slice pins s σ H _ _ v u Q I rx ry ⟨_, _, _, _, rfl, rfl, h1, h2, fin.old R rz⟩ hs
  · obtain rfl := tx.str
    obtain rfl := ty.int
    split at e
    · split at e
      · rename_i hl _ _ h2
        have q := Option.some.inj e
        subst q
        exact ix_str value slice pins s σ H _ _ v u Q I rx ry ⟨_, _, _, rfl, rfl, hl, h2, fin.str R⟩ hs
      · cases e
    · cases e
  · cases e
theorem dc_len : CallR X (.builtin "len") (rPN X.K T lenD) := by
  intro pins s σ H xs us Q I rx hw
  obtain ⟨M, F, α, ds, c, R, tx, e, fin⟩ := hw
  unfold lenD at e
  split at e
  · obtain ⟨v, rfl, t⟩ := tx.one
    obtain ⟨a, xs, rfl, h1, r1⟩ := t.lst_sq R
    have q := Option.some.inj e
    subst q
    exact call_len_seq pins s σ H _ us Q I rx ⟨_, _, rfl, .inl h1, by rw [r1.length]; exact fin.int R⟩
  · obtain ⟨v, rfl, t⟩ := tx.one
    obtain ⟨a, xs, rfl, h1, r1⟩ := t.scr R
    have q := Option.some.inj e
    subst q
    exact call_len_seq pins s σ H _ us Q I rx ⟨_, _, rfl, .inl h1, by rw [r1.length]; exact fin.int R⟩
  · obtain ⟨v, rfl, t⟩ := tx.one
    obtain ⟨a, xs, rfl, h1, _, r1⟩ := t.tup R
    have q := Option.some.inj e
    subst q
    exact call_len_seq pins s σ H _ us Q I rx ⟨_, _, rfl, .inr h1, by rw [r1.length]; exact fin.int R⟩
  · obtain ⟨v, rfl, t⟩ := tx.one
    obtain rfl := t.str
    split at e
    · have q := Option.some.inj e
      subst q
      exact call_len_str pins s σ H _ us Q I rx ⟨_, rfl, by assumption, fin.int R⟩
    · cases e
  · cases e
theorem dc_abs : CallR X (.builtin "abs") (rPN X.K T absD) := by
  intro pins s σ H xs us Q I rx hw
  obtain ⟨M, F, α, ds, c, R, tx, e, fin⟩ := hw
  unfold absD at e
  split at e
  · obtain ⟨v, rfl, t⟩ := tx.one
    obtain rfl := t.int
    have q := Option.some.inj e
    subst q
    exact call_abs pins s σ H _ us Q I rx ⟨_, rfl, fin.int R⟩
  · cases e
theorem dc_int : CallR X (.type "int") (rPN X.K T intD) := by
  intro pins s σ H xs us Q I rx hw
  obtain ⟨M, F, α, ds, c, R, tx, e, fin⟩ := hw
  unfold intD at e
  split at e
  · obtain ⟨v, rfl, t⟩ := tx.one
    obtain rfl := t.int
    have q := Option.some.inj e
    subst q
    exact call_int1 pins s σ H _ us Q I rx (.inl ⟨_, rfl, fin.int R⟩)
  · obtain ⟨v, rfl, t⟩ := tx.one
    obtain rfl := t.bl
    have q := Option.some.inj e
    subst q
    exact call_int1 pins s σ H _ us Q I rx (.inr ⟨_, rfl, fin.int R⟩)
  · cases e
theorem dc_min2 (hc : X.calm = true) : CallR X (.builtin "min") (rPN X.K T min2D) := by
  intro pins s σ H xs us Q I rx hw
  obtain ⟨M, F, α, ds, c, R, tx, e, fin⟩ := hw
  unfold min2D at e
  split at e
  · obtain ⟨v, w, rfl, t, t2⟩ := tx.two
    obtain rfl := t.int
    obtain rfl := t2.int
    have q := Option.some.inj e
    subst q
    exact call_min2 hc pins s σ H _ us Q I rx ⟨_, _, rfl, fin.int R⟩
  · cases e
theorem dc_max2 (hc : X.calm = true) : CallR X (.builtin "max") (rPN X.K T max2D) := by
  intro pins s σ H xs us Q I rx hw
  obtain ⟨M, F, α, ds, c, R, tx, e, fin⟩ := hw
  unfold max2D at e
  split at e
  · obtain ⟨v, w, rfl, t, t2⟩ := tx.two
    obtain rfl := t.int
    obtain rfl := t2.int
    have q := Option.some.inj e
    subst q
    exact call_max2 hc pins s σ H _ us Q I rx ⟨_, _, rfl, fin.int R⟩
  · cases e
theorem dc_all (hc : X.calm = true) : CallR X (.builtin "all") (rPN X.K T allD) := by
  intro pins s σ H xs us Q I rx hw
  obtain ⟨M, F, α, ds, c, R, tx, e, fin⟩ := hw
  unfold allD at e
  split at e
  · split at e
    · rename_i h2
      obtain ⟨v, rfl, t⟩ := tx.one
      obtain ⟨a, xs, rfl, h1, r1⟩ := t.lst_sq R
      have q := Option.some.inj e
      subst q
      exact cr_all hc pins s σ H _ us Q I rx ⟨_, _, rfl, by rw [← r1.bls h2]; exact h1, fin.bl R⟩
    · cases e
  · split at e
    · rename_i h2
      obtain ⟨v, rfl, t⟩ := tx.one
      obtain ⟨a, xs, rfl, h1, r1⟩ := t.scr R
      have q := Option.some.inj e
      subst q
      exact cr_all hc pins s σ H _ us Q I rx ⟨_, _, rfl, by rw [← r1.bls h2]; exact h1, fin.bl R⟩
    · cases e
  · cases e
theorem dc_any (hc : X.calm = true) : CallR X (.builtin "any") (rPN X.K T anyD) := by
  intro pins s σ H xs us Q I rx hw
  obtain ⟨M, F, α, ds, c, R, tx, e, fin⟩ := hw
  unfold anyD at e
  split at e
  · split at e
    · rename_i h2
      obtain ⟨v, rfl, t⟩ := tx.one
      obtain ⟨a, xs, rfl, h1, r1⟩ := t.lst_sq R
      have q := Option.some.inj e
      subst q
      exact cr_any hc pins s σ H _ us Q I rx ⟨_, _, rfl, by rw [← r1.bls h2]; exact h1, fin.bl R⟩
    · cases e
  · split at e
    · rename_i h2
      obtain ⟨v, rfl, t⟩ := tx.one
      obtain ⟨a, xs, rfl, h1, r1⟩ := t.scr R
      have q := Option.some.inj e
      subst q
      exact cr_any hc pins s σ H _ us Q I rx ⟨_, _, rfl, by rw [← r1.bls h2]; exact h1, fin.bl R⟩
    · cases e
  · cases e
theorem dc_tuple : CallR X (.type "tuple") (rPN X.K T tupleD) := by
  intro pins s σ H xs us Q I rx hw
  obtain ⟨M, F, α, ds, c, R, tx, e, fin⟩ := hw
  unfold tupleD at e
  split at e
  · obtain ⟨v, rfl, t⟩ := tx.one
    obtain ⟨a, xs, rfl, h1, r1⟩ := t.lst_sq R
    have q := Option.some.inj e
    subst q
    exact call_tuple_of pins s σ H _ us Q I rx ⟨_, _, rfl, .inl ⟨h1, fun p hp => fin.tup R r1 hp⟩⟩
  · obtain ⟨v, rfl, t⟩ := tx.one
    obtain ⟨a, xs, rfl, h1, r1⟩ := t.scr R
    have q := Option.some.inj e
    subst q
    exact call_tuple_of pins s σ H _ us Q I rx ⟨_, _, rfl, .inl ⟨h1, fun p hp => fin.tup R r1 hp⟩⟩
  · obtain ⟨v, rfl, t⟩ := tx.one
    obtain ⟨a, xs, rfl, h1, f1, r1⟩ := t.tup R
    have q := Option.some.inj e
    subst q
    exact call_tuple_of pins s σ H _ us Q I rx ⟨_, _, rfl, .inr ⟨h1, fin.old R (.tup f1 r1)⟩⟩
  · cases e
end
end Mi
namespace Mi
open PySem PySem.Spec PyProof.Rows L2
mutual
def toPy : PD → Option PyData
  | .non => some .none
  | .bl b => some (.bool b)
  | .int i => some (.int i)
  | .str x => some (.str x)
  | .tup ds => (match toPys ds with
    | some xs => some (.tuple xs)
    | none => none)
  | .lst ds => (match toPys ds with
    | some xs => some (.list xs)
    | none => none)
  | .scr ds => (match toPys ds with
    | some xs => some (.list xs)
    | none => none)
  | .dct _ _ => none
  | .ins _ _ => none
  | .unk => none
  | .exc _ _ => none
def toPys : List PD → Option (List PyData)
  | [] => some []
  | d :: ds => (match toPy d, toPys ds with
    | some x, some xs => some (x :: xs)
    | _, _ => none)
end
def eqD (x y : PD) : Option PD := match toPy x, toPy y with
  | some a, some b => if min a.depth b.depth ≤ 40 then some (.bl (PyData.eqv a b)) else none
  | _, _ => none
def neD (x y : PD) : Option PD := match toPy x, toPy y with
  | some a, some b => if min a.depth b.depth ≤ 40 then some (.bl (!PyData.eqv a b)) else none
  | _, _ => none
def seqOf : PD → Option (List PD)
  | .lst ds => some ds
  | .scr ds => some ds
  | .tup ds => some ds
  | _ => none
def inD (x y : PD) : Option PD := match y with
  | .str z => (match x with
    | .str u => some (.bl (!(Builtin.Str.occurrences z u 0 z.length 1).isEmpty))
    | _ => none)
  | y => (match seqOf y, toPy x with
    | some ds, some a => (match toPys ds with
      | some bs => if min (PyData.depthAll bs) a.depth ≤ 40 then some (.bl (bs.any fun b => PyData.eqv b a)) else none
      | none => none)
    | _, _ => none)
def notinD (x y : PD) : Option PD := match y with
  | .str z => (match x with
    | .str u => some (.bl (!(!(Builtin.Str.occurrences z u 0 z.length 1).isEmpty)))
    | _ => none)
  | y => (match seqOf y, toPy x with
    | some ds, some a => (match toPys ds with
      | some bs => if min (PyData.depthAll bs) a.depth ≤ 40 then some (.bl (!bs.any fun b => PyData.eqv b a)) else none
      | none => none)
    | _, _ => none)
section
variable {X : Cx} {T : Tb}
mutual
theorem rep_dp {K : PySem.W.Frag} {F H : Hp} {α : List Addr} {M : MH} (R : HR K T H M F α) : ∀ {d : PD} {v : V} {p : PyData}, Rep K T F v d → toPy d = some p → Dp K H v p
  | .non, _, _, .non, e => by cases Option.some.inj e; exact .non
  | .bl b, _, _, .bl _, e => by cases Option.some.inj e; exact .bl b
  | .int i, _, _, .int _, e => by cases Option.some.inj e; exact .int i
  | .str x, _, _, .str _, e => by cases Option.some.inj e; exact .str x
  | .tup ds, _, _, .tup h1 h2, e => by
    unfold toPy at e
    cases h : toPys ds with
    | none => rw [h] at e; cases e
    | some xs =>
      rw [h] at e
      cases Option.some.inj e
      exact .tup (sqT_H R h1) (reps_dp R h2 h)
  | .lst ds, _, _, .lst h1 h2, e => by
    unfold toPy at e
    cases h : toPys ds with
    | none => rw [h] at e; cases e
    | some xs =>
      rw [h] at e
      cases Option.some.inj e
      exact .lst (SqL.of (lst_H R h1)) (reps_dp R h2 h)
  | .scr ds, _, _, .scr h1 h2, e => by
    unfold toPy at e
    cases h : toPys ds with
    | none => rw [h] at e; cases e
    | some xs =>
      rw [h] at e
      cases Option.some.inj e
      exact .lst (sqL_H R h1) (reps_dp R h2 h)
  | .dct _ _, _, _, _, e => by unfold toPy at e; cases e
  | .ins _ _, _, _, _, e => by unfold toPy at e; cases e
theorem reps_dp {K : PySem.W.Frag} {F H : Hp} {α : List Addr} {M : MH} (R : HR K T H M F α) : ∀ {ds : List PD} {vs : List V} {ps : List PyData}, Reps K T F vs ds → toPys ds = some ps → DpAll K H vs ps
  | [], _, _, .nil, e => by unfold toPys at e; cases Option.some.inj e; exact .nil
  | d :: ds, _, _, .cons h1 h2, e => by
    unfold toPys at e
    cases h : toPy d with
    | none => rw [h] at e; cases e
    | some x =>
      cases h' : toPys ds with
      | none => rw [h, h'] at e; cases e
      | some xs =>
        rw [h, h'] at e
        cases Option.some.inj e
        exact .cons (rep_dp R h1 h) (reps_dp R h2 h')
end
theorem top_dp {K : PySem.W.Frag} {F H : Hp} {α : List Addr} {M : MH} (R : HR K T H M F α) {d : PD} {v : V} {p : PyData} (t : Top K T F H v d) (e : toPy d = some p) : Dp K H v p := by
  rcases t with t | t
  · exact rep_dp R t e
  · cases d with
    | lst ds =>
      obtain ⟨a, xs, rfl, h1, h2⟩ := t
      unfold toPy at e
      cases h : toPys ds with
      | none => rw [h] at e; cases e
      | some xs =>
        rw [h] at e
        cases Option.some.inj e
        exact .lst (SqL.of h1) (reps_dp R h2 h)
    | dct _ _ => unfold toPy at e; cases e
    | _ => cases t
mutual
theorem toPy_plain : ∀ {d : PD} {p : PyData}, toPy d = some p → p.plain = true
  | .non, _, e => by unfold toPy at e; cases Option.some.inj e; rfl
  | .bl b, _, e => by unfold toPy at e; cases Option.some.inj e; rfl
  | .int i, _, e => by unfold toPy at e; cases Option.some.inj e; rfl
  | .str x, _, e => by unfold toPy at e; cases Option.some.inj e; rfl
  | .tup ds, _, e => by
    unfold toPy at e
    cases h : toPys ds with
    | none => rw [h] at e; cases e
    | some xs =>
      rw [h] at e
      cases Option.some.inj e
      exact toPys_plain h
  | .lst ds, _, e => by
    unfold toPy at e
    cases h : toPys ds with
    | none => rw [h] at e; cases e
    | some xs =>
      rw [h] at e
      cases Option.some.inj e
      exact toPys_plain h
  | .scr ds, _, e => by
    unfold toPy at e
    cases h : toPys ds with
    | none => rw [h] at e; cases e
    | some xs =>
      rw [h] at e
      cases Option.some.inj e
      exact toPys_plain h
  | .dct _ _, _, e => by unfold toPy at e; cases e
  | .ins _ _, _, e => by unfold toPy at e; cases e
theorem toPys_plain : ∀ {ds : List PD} {ps : List PyData}, toPys ds = some ps → PyData.plainAll ps = true
  | [], _, e => by unfold toPys at e; cases Option.some.inj e; rfl
  | d :: ds, _, e => by
    unfold toPys at e
    cases h : toPy d with
    | none => rw [h] at e; cases e
    | some x =>
      cases h' : toPys ds with
      | none => rw [h, h'] at e; cases e
      | some xs =>
        rw [h, h'] at e
        cases Option.some.inj e
        unfold PyData.plainAll
        rw [toPy_plain h, toPys_plain h']
        rfl
end
theorem dop_eq (hu : X.A.units + 64 < cLine) : OpR X (compareOp .Eq) (rP2 X.K T eqD) := by
  intro pins s σ H x y v w Q I rx ry hw
  obtain ⟨M, F, α, dx, dy, c, R, tx, ty, e, fin⟩ := hw
  unfold eqD at e
  split at e
  · rename_i a b ha hb
    split at e
    · rename_i hd
      have q := Option.some.inj e
      subst q
      obtain ⟨as, r1⟩ := Dp.reads I a x v (top_dp R tx ha) rx
      obtain ⟨bs, r2⟩ := Dp.reads I b y w (top_dp R ty hb) ry
      exact PySem.SeqAt.eq_plain r1 r2 (toPy_plain ha) (toPy_plain hb) (by omega) ⟨.bl _, H, I, rfl, fin.bl R⟩
    · cases e
  · cases e
theorem dop_ne (hu : X.A.units + 64 < cLine) : OpR X (compareOp .NotEq) (rP2 X.K T neD) := by
  intro pins s σ H x y v w Q I rx ry hw
  obtain ⟨M, F, α, dx, dy, c, R, tx, ty, e, fin⟩ := hw
  unfold neD at e
  split at e
  · rename_i a b ha hb
    split at e
    · rename_i hd
      have q := Option.some.inj e
      subst q
      obtain ⟨as, r1⟩ := Dp.reads I a x v (top_dp R tx ha) rx
      obtain ⟨bs, r2⟩ := Dp.reads I b y w (top_dp R ty hb) ry
      exact PySem.SeqAt.ne_plain r1 r2 (toPy_plain ha) (toPy_plain hb) (by omega) ⟨.bl _, H, I, rfl, fin.bl R⟩
    · cases e
  · cases e
theorem seq_reads {K : PySem.W.Frag} {F H : Hp} {α : List Addr} {M : MH} (R : HR K T H M F α) {y : PD} {ds : List PD} {v : V} {bs : List PyData} (t : Top K T F H v y) (h : seqOf y = some ds) (e : toPys ds = some bs) : Dp K H v (.list bs) ∨ Dp K H v (.tuple bs) := by
  cases y with
  | lst es =>
    have q : es = ds := Option.some.inj h
    subst q
    exact .inl (top_dp R t (by unfold toPy; rw [e]))
  | scr es =>
    have q : es = ds := Option.some.inj h
    subst q
    exact .inl (top_dp R t (by unfold toPy; rw [e]))
  | tup es =>
    have q : es = ds := Option.some.inj h
    subst q
    exact .inr (top_dp R t (by unfold toPy; rw [e]))
  | _ => cases h
theorem dop_in (hu : X.A.units + 64 < cLine) : OpR X (compareOp .In) (rP2 X.K T inD) := by
  intro pins s σ H x y v w Q I rx ry hw
  obtain ⟨M, F, α, dx, dy, c, R, tx, ty, e, fin⟩ := hw
  unfold inD at e
  split at e
  · split at e
    · have q := Option.some.inj e
      subst q
      obtain rfl := tx.str
      obtain rfl := ty.str
      exact op_in_str pins s σ H _ _ v w Q I rx ry ⟨_, _, rfl, rfl, fin.bl R⟩
    · cases e
  · split at e
    · rename_i ds a hs ha
      split at e
      · rename_i bs hb
        split at e
        · have q := Option.some.inj e
          subst q
          obtain ⟨as, r1⟩ := Dp.reads I a x v (top_dp R tx ha) rx
          rcases seq_reads R ty hs hb with t2 | t2
          · obtain ⟨cs, r2⟩ := Dp.reads I _ y w t2 ry
            exact PySem.SeqAt.in_list_data r2 r1 (toPys_plain hb) (toPy_plain ha) (by omega) ⟨.bl _, H, I, rfl, fin.bl R⟩
          · obtain ⟨cs, r2⟩ := Dp.reads I _ y w t2 ry
            exact PySem.SeqAt.in_tuple_data r2 r1 (toPys_plain hb) (toPy_plain ha) (by omega) ⟨.bl _, H, I, rfl, fin.bl R⟩
        · cases e
      · cases e
    · cases e
theorem dop_notin (hu : X.A.units + 64 < cLine) : OpR X (compareOp .NotIn) (rP2 X.K T notinD) := by
  intro pins s σ H x y v w Q I rx ry hw
  obtain ⟨M, F, α, dx, dy, c, R, tx, ty, e, fin⟩ := hw
  unfold notinD at e
  split at e
  · split at e
    · have q := Option.some.inj e
      subst q
      obtain rfl := tx.str
      obtain rfl := ty.str
      exact L2.op_notin_str pins s σ H _ _ v w Q I rx ry ⟨_, _, rfl, rfl, fin.bl R⟩
    · cases e
  · split at e
    · rename_i ds a hs ha
      split at e
      · rename_i bs hb
        split at e
        · have q := Option.some.inj e
          subst q
          obtain ⟨as, r1⟩ := Dp.reads I a x v (top_dp R tx ha) rx
          rcases seq_reads R ty hs hb with t2 | t2
          · obtain ⟨cs, r2⟩ := Dp.reads I _ y w t2 ry
            exact PySem.SeqAt.notIn_list_data r2 r1 (toPys_plain hb) (toPy_plain ha) (by omega) ⟨.bl _, H, I, rfl, fin.bl R⟩
          · obtain ⟨cs, r2⟩ := Dp.reads I _ y w t2 ry
            exact PySem.SeqAt.notIn_tuple_data r2 r1 (toPys_plain hb) (toPy_plain ha) (by omega) ⟨.bl _, H, I, rfl, fin.bl R⟩
        · cases e
      · cases e
    · cases e
end
def prsOf : List PD → Option (List (Int × Int))
  | [] => some []
  | .tup [.int a, .int b] :: r => (match prsOf r with
    | some bs => some ((a, b) :: bs)
    | none => none)
  | _ :: _ => none
def ltPr (p q : Int × Int) : Bool := decide (p.1 < q.1 ∨ (p.1 = q.1 ∧ p.2 < q.2))
def minPr (x : Int × Int) (xs : List (Int × Int)) : Int × Int := xs.foldl (fun a y => if ltPr y a then y else a) x
def prD (p : Int × Int) : PD := .tup [.int p.1, .int p.2]
def prPy (p : Int × Int) : PyData := .tuple [.int p.1, .int p.2]
def minPrD : List PD → Option PD
  | [.lst a] => (match prsOf a with
    | some (p :: ps) => some (prD (minPr p ps))
    | _ => none)
  | _ => none
def minIn : List Int → Option Int
  | [] => none
  | n :: ns => some (ns.foldl min n)
def minD1 : List PD → Option PD
  | [.lst a] => (match intsOf a with
    | some ns => (match minIn ns with
      | some m => some (.int m)
      | none => none)
    | none => none)
  | _ => none
section
variable {X : Cx} {T : Tb}
theorem prsOf_eq : ∀ {ds : List PD} {ps : List (Int × Int)}, prsOf ds = some ps → ds = ps.map prD
  | [], ps, e => by
    have q : [] = ps := Option.some.inj e
    subst q
    rfl
  | d :: ds, ps, e => by
    unfold prsOf at e
    split at e
    · rename_i h
      cases h
    · rename_i a b r h
      cases h
      split at e
      · rename_i h2
        have q := Option.some.inj e
        subst q
        rw [prsOf_eq h2]
        rfl
      · cases e
    · cases e
theorem toPys_prs : ∀ ps : List (Int × Int), toPys (ps.map prD) = some (ps.map prPy)
  | [] => by rfl
  | p :: ps => by
    rw [List.map_cons, List.map_cons]
    unfold toPys
    rw [toPys_prs ps]
    rfl
theorem alike_prs (ps : List (Int × Int)) : PySem.W.AlikeAll (ps.map prPy) := by
  refine ⟨fun x hx y hy => ?_, fun x hx => ?_⟩
  · obtain ⟨p, _, rfl⟩ := List.mem_map.mp hx
    obtain ⟨q, _, rfl⟩ := List.mem_map.mp hy
    rfl
  · obtain ⟨p, _, rfl⟩ := List.mem_map.mp hx
    intro z
    cases z
theorem depth_prs : ∀ ps : List (Int × Int), PyData.depthAll (ps.map prPy) ≤ 1
  | [] => by unfold PyData.depthAll; simp
  | p :: ps => by
    have := depth_prs ps
    rw [List.map_cons]
    unfold PyData.depthAll
    refine Nat.max_le.mpr ⟨?_, this⟩
    have : (prPy p).depth = 1 := by
      unfold prPy PyData.depth PyData.depthAll
      rfl
    omega
theorem minD_prs : ∀ (ps : List (Int × Int)) (p : Int × Int), PySem.W.minD (prPy p) (ps.map prPy) = prPy (minPr p ps)
  | [], p => rfl
  | q :: ps, p => by
    unfold PySem.W.minD minPr
    rw [List.map_cons, List.foldl_cons, List.foldl_cons]
    have e : PySem.W.dataLt (prPy q) (prPy p) = ltPr q p := PySem.W.dataLt_ii _ _ _ _
    rw [e]
    have ih := minD_prs ps (if ltPr q p = true then q else p)
    unfold PySem.W.minD minPr at ih
    rw [← ih]
    cases ltPr q p <;> rfl
theorem prPy_inj {p q : Int × Int} (h : prPy p = prPy q) : p = q := by
  unfold prPy at h
  injection h with h
  injection h with h1 h2
  injection h2 with h2 h3
  injection h1 with h1
  injection h2 with h2
  exact Prod.ext h1 h2
theorem dc_minPr (hc : X.calm = true) (hu : X.A.units + 64 < cLine) : CallR X (.builtin "min") (rPN X.K T minPrD) := by
  intro pins s σ H xs us Q I rx hw
  obtain ⟨M, F, α, ds, c, R, tx, e, fin⟩ := hw
  unfold minPrD at e
  split at e
  · rename_i a
    split at e
    · rename_i p ps hp
      have q := Option.some.inj e
      subst q
      obtain ⟨v, rfl, t⟩ := tx.one
      obtain ⟨l, xs, rfl, h1, r1⟩ := t.lst_sq R
      rw [Vals.ref1 rx]
      obtain ⟨its, rv, ⟨o, n, ho, hcl, hd0, hd⟩, hz⟩ := I.list h1
      have e1 := prsOf_eq hp
      subst e1
      have h2 := toPys_prs (p :: ps)
      obtain ⟨as, rr⟩ := Dp.readsAll I _ _ its (reps_dp R r1 h2) rv
      have hdep := depth_prs (p :: ps)
      refine PySem.W.min_list_data (vs := its.toArray) (x := prPy p) (xs := ps.map prPy) (I.ok.hd hc) ⟨o, ho, hcl, n, hd⟩ (by simpa using rr) (alike_prs (p :: ps)) (by rw [List.map_cons] at hdep; omega) fun i u h' tk bs hi hr hk => ?_
      rw [minD_prs] at hr
      have hi' : its[i]? = some u := by simpa using hi
      have hlt : i < xs.length := by
        rw [rv.length]
        exact (List.getElem?_eq_some_iff.mp hi').1
      obtain ⟨u', hu', ru⟩ := rv.get (List.getElem?_eq_getElem hlt)
      rw [hi'] at hu'
      have e5 := Option.some.inj hu'
      subst e5
      have hlt2 : i < ((p :: ps).map prD).length := by rw [← r1.length]; exact hlt
      obtain ⟨z, hz1, hz2⟩ := r1.get (List.getElem?_eq_getElem hlt2)
      rw [List.getElem?_eq_getElem hlt] at hz1
      have e6 := Option.some.inj hz1
      have I' : Inv X pins σ H { s with heap := h', toks := tk } := I.kept hk
      rw [List.getElem_map] at hz2
      rw [← e6] at hz2
      have hdp : Dp X.K H xs[i] (prPy ((p :: ps)[i]'(by simpa using hlt2))) := rep_dp R hz2 (by rfl)
      obtain ⟨bs2, hr2⟩ := Dp.reads I' _ _ u hdp ru
      have e7 := PySem.SeqAt.plain_unique _ _ _ _ _ (by rfl) hr hr2
      have e8 := prPy_inj e7
      rw [← e8] at hz2
      exact ⟨xs[i], H, I', ru, fin.old R hz2⟩
    · cases e
  · cases e
theorem minIn_le : ∀ {ns : List Int} {m : Int}, minIn ns = some m → m ∈ ns ∧ ∀ y ∈ ns, m ≤ y
  | [], _, e => by cases e
  | n :: ns, m, e => by
    have q : ns.foldl min n = m := Option.some.inj e
    have key : ∀ (l : List Int) (a : Int), (l.foldl min a ∈ a :: l) ∧ l.foldl min a ≤ a ∧ ∀ y ∈ l, l.foldl min a ≤ y := by
      intro l
      induction l with
      | nil => intro a; simp
      | cons b l ih =>
        intro a
        rw [List.foldl_cons]
        obtain ⟨h1, h2, h3⟩ := ih (min a b)
        refine ⟨?_, by omega, fun y hy => ?_⟩
        · rcases List.mem_cons.mp h1 with h | h
          · rw [h]
            by_cases hab : a ≤ b
            · rw [Int.min_eq_left hab]; exact List.mem_cons_self
            · rw [Int.min_eq_right (by omega)]; exact List.mem_cons_of_mem _ List.mem_cons_self
          · exact List.mem_cons_of_mem _ (List.mem_cons_of_mem _ h)
        · rcases List.mem_cons.mp hy with h | h
          · subst h; omega
          · exact h3 y h
    obtain ⟨h1, h2, h3⟩ := key ns n
    rw [q] at h1 h2 h3
    exact ⟨h1, fun y hy => by
      rcases List.mem_cons.mp hy with h | h
      · subst h; exact h2
      · exact h3 y h⟩
theorem dc_min1 (hc : X.calm = true) : CallR X (.builtin "min") (rPN X.K T minD1) := by
  intro pins s σ H xs us Q I rx hw
  obtain ⟨M, F, α, ds, c, R, tx, e, fin⟩ := hw
  unfold minD1 at e
  split at e
  · split at e
    · rename_i ns h2
      split at e
      · rename_i m hm
        have q := Option.some.inj e
        subst q
        obtain ⟨v, rfl, t⟩ := tx.one
        obtain ⟨l, xs, rfl, h1, r1⟩ := t.lst_sq R
        obtain ⟨k1, k2⟩ := minIn_le hm
        refine cr_min hc pins s σ H _ us Q I rx ⟨_, _, rfl, by rw [← r1.ints h2]; exact h1, List.length_pos_of_mem k1, fun m' hm' hle => ?_⟩
        have e1 : m' = m := by
          have := hle m k1
          have := k2 m' hm'
          omega
        rw [e1]
        exact fin.int R
      · cases e
    · cases e
  · cases e
end
end Mi
namespace HT
open PySem PySem.Spec PyProof.Rows L2 PySem.W
section
variable {prog : Program} {w : World} {A : Around} {E : Value → Shared → Prop} {s : Shared}
theorem adjust_rev (n : Nat) : Builtin.Slice.sliceAdjust none none (-1) (n : Int) = ((n : Int) - 1, -1) := by
  unfold Builtin.Slice.sliceAdjust
  simp
theorem places_rev (n : Nat) : Builtin.Slice.slicePlaces ((n : Int) - 1) (-1) (-1) = n := by
  unfold Builtin.Slice.slicePlaces
  have h1 : ¬ ((-1 : Int) > 0) := by omega
  simp only [h1, if_false]
  by_cases h : (n : Int) - 1 > -1
  · rw [if_pos h]
    have : (- -1 : Int) = 1 := rfl
    rw [this, Int.ediv_one]
    omega
  · rw [if_neg h]
    omega
theorem pick_rev (xs : Array Value) : ((List.range xs.size).filterMap fun (m : Nat) => xs[(((xs.size : Int) - 1) + (m : Int) * (-1)).toNat]?).toArray = xs.toList.reverse.toArray := by
  congr 1
  have key : ∀ k, k ≤ xs.size → ((List.range k).filterMap fun (m : Nat) => xs[(((xs.size : Int) - 1) + (m : Int) * (-1)).toNat]?) = xs.toList.reverse.take k := by
    intro k
    induction k with
    | zero => intro _; simp
    | succ k ih =>
      intro hk
      rw [List.range_succ, List.filterMap_append, ih (by omega), List.take_add_one]
      congr 1
      have e : (((xs.size : Int) - 1) + (k : Int) * (-1)).toNat = xs.size - 1 - k := by omega
      have hx : xs.size - 1 - k < xs.size := by omega
      have h2 : xs.toList.reverse[k]? = some xs[xs.size - 1 - k] := by
        rw [List.getElem?_reverse (by rw [Array.length_toList]; omega)]
        simp [hx]
      rw [h2]
      simp only [List.filterMap_cons, List.filterMap_nil, e, Array.getElem?_eq_getElem hx, Option.toList]
  rw [key _ (Nat.le_refl _), List.take_of_length_le (by simp)]
theorem sliceApplied_rev {sl : Addr} {vl vu vs : Value} {n : Nat} {Q : Int × Int × Nat → Shared → Prop} (hs : s.heap.IsSliceOf sl vl vu vs) (pl : IsPart vl none) (pu : IsPart vu none) (ps : IsPart vs (some (-1)))
    (h : Q ((n : Int) - 1, -1, n) s) : wpAny (model prog w) A (Builtin.Slice.sliceApplied (.ref sl) (pure (n : Int))) Q E s := by
  obtain ⟨os, hos, hcs, hds⟩ := id hs
  unfold Builtin.Slice.sliceApplied Builtin.Slice.sliceFields
  refine wpAny_bind (wpAny_bind (wpAny_field hos hds (x := vl) rfl (wpAny_bind (wpAny_field hos hds (x := vu) rfl (wpAny_bind (wpAny_field hos hds (x := vs) rfl (wpAny_pure ?_)))))))
  refine wpAny_bind (slicePart_ ps ?_)
  show wpAny _ _ (if ((-1 : Int) == 0) = true then _ else _) _ _ s
  rw [if_neg (by decide)]
  refine wpAny_bind (slicePart_ pl (wpAny_bind (slicePart_ pu (wpAny_bind (wpAny_pure ?_)))))
  show wpAny _ _ (match Builtin.Slice.sliceAdjust none none (-1) (n : Int) with | (lo, hi) => pure (lo, (-1 : Int), Builtin.Slice.slicePlaces lo hi (-1))) _ _ s
  rw [adjust_rev n]
  show wpAny _ _ (pure ((n : Int) - 1, (-1 : Int), Builtin.Slice.slicePlaces ((n : Int) - 1) (-1) (-1))) _ _ s
  rw [places_rev]
  exact wpAny_pure h
theorem getItem_tuple_rev {t sl : Addr} {items : Array Value} {vl vu vs : Value} {Q : Value → Shared → Prop} (ht : IsTup s.heap t items) (hs : s.heap.IsSliceOf sl vl vu vs) (pl : IsPart vl none) (pu : IsPart vu none) (ps : IsPart vs (some (-1)))
    (h : Q (.ref s.heap.objs.size) { s with heap := s.heap.push { cls := .type "tuple", data := .seq items.toList.reverse.toArray } })
    (hsz : items.size ≤ sizeLine) : wpAny (model prog w) A (getItem (.ref t) (.ref sl)) Q E s := by
  have htake : sizeOk (.seq items.toList.reverse.toArray) := by
    show items.toList.reverse.toArray.size ≤ sizeLine
    rw [List.size_toArray, List.length_reverse, Array.length_toList]
    exact hsz
  obtain ⟨os, hos, hcs, hds⟩ := id hs
  have hTs : s.TypeIs (.ref sl) "slice" := ⟨os, hos, hcs⟩
  unfold getItem
  try with_reducible refine wpAny_holding ?_
  first | refine wpAny_bind (wpAny_pure ?_) | skip
  refine wpAny_bind (wpAny_sequenceKey ht.typeIs (by decide) ?_)
  refine wpAny_bind (wpAny_callSpecial?_slot (name := Str.ofString "__getitem__") ht.typeIs PyProof.Rows.slot_tuple_getitem
    (wpAny_call_entry PyProof.Rows.slot_tuple_getitem ht.typeIs entry_tuple_getitem ?_ (args_tuple_getitem _ _)))
  show wpAny _ _ (Builtin.Tuple.tupleItemsOf (.ref t) >>= _) _ _ s
  refine wpAny_bind (tupleItemsOf_ ht ?_)
  refine wpAny_bind (wpAny_typeOf hTs ?_)
  rw [if_pos (by decide)]
  refine wpAny_bind (sliceApplied_rev hs pl pu ps ?_)
  have hno : ¬ ((((items.size : Int) - 1) == 0 && (-1 : Int) == 1 && items.size == items.size) = true) := by
    intro q
    rw [Bool.and_eq_true, Bool.and_eq_true] at q
    have q1 : (-1 : Int) = 1 := eq_of_beq q.1.2
    omega
  show wpAny _ _ (if (((items.size : Int) - 1) == 0 && (-1 : Int) == 1 && items.size == items.size) = true then _ else _) _ _ s
  rw [if_neg hno, pick_rev]
  first
    | exact wpAny_bind (m := Builtin.Tuple.tupleExact _) (wpAny_newObj_type (wpAny_pure ⟨_, rfl, wpAny_pure h⟩) htake)
    | exact wpAny_bind (m := Builtin.Tuple.tupleExact _) (wpAny_newObj_type (wpAny_bind (wpAny_pure (wpAny_pure ⟨_, rfl, wpAny_pure h⟩))) htake)
    | exact wpAny_bind (wpAny_bind (m := Builtin.Tuple.tupleExact _) (wpAny_newObj_type (wpAny_pure (wpAny_pure ⟨_, rfl, wpAny_pure h⟩)) htake))
    | exact wpAny_bind (wpAny_bind (m := Builtin.Tuple.tupleExact _) (wpAny_newObj_type (wpAny_pure ⟨_, rfl, wpAny_pure h⟩) htake))
end
end HT
namespace Mi
open PySem PySem.Spec PyProof.Rows L2
section
variable {X : Cx}
def tRevA (K : PySem.W.Frag) (te : TE) : TE := fun σ H Q => te σ H fun x H1 => ∃ a xs, x = .ref a ∧ ((SqL K H1 a xs ∧ ∀ p, H1 p = none → Q (.ref p) (upd H1 p (.lst xs.reverse))) ∨ (SqT K H1 a xs ∧ ∀ p, H1 p = none → Q (.ref p) (upd H1 p (.tup xs.reverse))))
theorem pe_revA {e : Expr} {te : TE} {k : Nat} {p1 p2 p3 pos : Pos} (he : PE X e te) : PE X (.Subscript e (.Slice none none (some (.UnaryOp .USub (.Constant (.int 1) k p1) p2)) p3) pos) (tRevA X.K te) := by
  refine ⟨fun pins s σ H Q I h => ?_⟩
  refine Subscript_ (thn (he.run pins s σ H _ I h) fun v s1 ⟨x, H1, I1, r1, q1⟩ => ?_)
  obtain ⟨a, xs, ex, q1⟩ := q1
  subst ex
  cases r1
  have hst : PO X (some (.UnaryOp .USub (.Constant (.int 1) k p1) p2)) (tPart (tUn (rU fun i => .int (-i)) (tC (.int 1)))) := po_some (pe_un un_neg pe_int)
  refine wpAny_Slice (thn (po_none.run pins s1 σ H1 (fun o H2 => o = none ∧ H2 = H1) I1 ⟨rfl, rfl⟩) fun vl s2 ⟨l, H2, I2, pl, el, e2⟩ => ?_)
  subst el e2
  refine thn (po_none.run pins s2 σ H2 (fun o H3 => o = none ∧ H3 = H2) I2 ⟨rfl, rfl⟩) fun vu s3 ⟨u, H3, I3, pu, eu, e3⟩ => ?_
  subst eu e3
  refine thn (hst.run pins s3 σ H3 (fun o H4 => o = some (-1) ∧ H4 = H3) I3 ⟨1, rfl, -1, rfl, rfl, rfl⟩) fun vs s4 ⟨o, H4, I4, ps, eo, e4⟩ => ?_
  subst eo e4
  have I5 : Inv X pins σ H4 { s4 with heap := s4.heap.push { cls := .type "slice", data := .fields #[vl, vu, vs] } } := I4.kept (t' := s4.toks) fun b ob q => Heap.get?_push_of_some _ q
  show wpAny (model X.prog X.w) X.A (subscriptTail e (.Slice none none (some (.UnaryOp .USub (.Constant (.int 1) k p1) p2)) p3) (.ref a) (.ref s4.heap.objs.size)) (EP X pins σ Q) X.xe { s4 with heap := s4.heap.push { cls := .type "slice", data := .fields #[vl, vu, vs] } }
  rcases q1 with ⟨hx, q⟩ | ⟨hx, q⟩
  · obtain ⟨its, r, ht, hz⟩ := I5.list hx
    have hlen := r.length
    refine tail_any (ops := [.ref a, .ref s4.heap.objs.size]) ht.isList.typeIs (PySem.slot_list_getitem.lookup) ?_ (by with_unfolding_all rfl)
    refine wpAny_getItem_list_slice ht.isList (Heap.IsSliceOf.new _ vl vu vs) pl pu ps (by decide) ?_ (by rw [List.size_toArray]; omega)
    rw [PySem.W.krv_pick]
    refine ⟨.ref _, _, I5.laid (t' := s4.toks) (o := .lst xs.reverse) (fun b ob q => Heap.get?_push_of_some _ q) (Nat.le_refl _) ?_, rfl, q _ (I5.hok.fresh (Nat.le_refl _))⟩
    exact ⟨by rw [List.length_reverse]; exact hz, _, 0, r.reverse, Heap.get?_push_size _ rfl⟩
  · obtain ⟨its, r, ht, hz⟩ := I5.tuple hx
    have hlen := r.length
    refine tail_any (ops := [.ref a, .ref s4.heap.objs.size]) ht.typeIs (PyProof.Rows.slot_tuple_getitem.lookup) ?_ (by with_unfolding_all rfl)
    refine HT.getItem_tuple_rev ht (Heap.IsSliceOf.new _ vl vu vs) pl pu ps ?_ (by rw [List.size_toArray]; omega)
    refine ⟨.ref _, _, I5.laid (t' := s4.toks) (o := .tup xs.reverse) (fun b ob q => Heap.get?_push_of_some _ q) (Nat.le_refl _) ?_, rfl, q _ (I5.hok.fresh (Nat.le_refl _))⟩
    exact ⟨by rw [List.length_reverse]; exact hz, its.reverse, r.reverse, ⟨_, Heap.get?_push_size _ rfl, rfl, 0, rfl⟩⟩
end
end Mi
namespace Mi
open PySem PySem.Spec PyProof.Rows L2
section
variable {X : Cx} {T : Tb} {W : WX} {g h l : EX} {a b c : Expr} {pos : Pos}
theorem chain_at {f f' : PD → PD → Option PD} {σ : L2.St} {H : Hp} {Q : VK} (hh : tE X.K T W (eChain f f' g h l) σ H Q) : tChain (rP2 X.K T f) (rP2 X.K T f') (tE X.K T W g) (tE X.K T W h) (tE X.K T W l) σ H Q := by
  obtain ⟨ρ, M, F, α, L, R, hh⟩ := rd_to hh
  refine rd_of L R (at_bind hh fun x M1 v H1 F1 α1 s1 R1 r1 h1 => ?_)
  refine rd_of (L.mono s1) R1 (at_bind h1 fun y M2 w H2 F2 α2 s2 R2 r2 h2 => ?_)
  refine at_op2 (W := W) (σ := σ) R2 (r1.mono s2) r2 (at_bind h2 fun z M3 w3 H3 F3 α3 s3 R3 r3 h3 => ?_)
  obtain ⟨k, rfl, h4⟩ := asB_ok r3 h3
  refine ⟨k, rfl, ?_⟩
  cases k with
  | false => exact at_ok (v := V.bl false) R3 h4 (.bl false)
  | true =>
    rw [if_pos rfl] at h4 ⊢
    refine rd_of (((L.mono s1).mono s2).mono s3) R3 (at_bind h4 fun u M4 w4 H4 F4 α4 s4 R4 r4 h5 => ?_)
    exact at_op2 R4 ((r2.mono s3).mono s4) r4 h5
theorem de_chain {op op' : CmpOp} {f f' : PD → PD → Option PD} (ho : OpR X (compareOp op) (rP2 X.K T f)) (ho' : OpR X (compareOp op') (rP2 X.K T f')) (ha : PE X a (tE X.K T W g)) (hb : PE X b (tE X.K T W h)) (hc : PE X c (tE X.K T W l))
    (hm : lastMarks [op, op'] [b, c] = false := by with_unfolding_all rfl) : PE X (.Compare a [op, op'] [b, c] pos) (tE X.K T W (eChain f f' g h l)) :=
  peImp (pe_chain ho ho' ha hb hc hm) fun σ H Q hh => chain_at hh
theorem dt_chain {op op' : CmpOp} {f f' : PD → PD → Option PD} (ho : OpR X (compareOp op) (rP2 X.K T f)) (ho' : OpR X (compareOp op') (rP2 X.K T f')) (ha : PE X a (tE X.K T W g)) (hb : PE X b (tE X.K T W h)) (hc : PE X c (tE X.K T W l))
    (hm : lastMarks [op, op'] [b, c] = false := by with_unfolding_all rfl) : PT X (.Compare a [op, op'] [b, c] pos) (tT X.K T W (tBl (eChain f f' g h l))) := by
  refine ptImp (pt_chain ho ho' ha hb hc hm) fun σ H Q hh => ?_
  have hh : tE X.K T W (eChain f f' g h l) σ H (fun x H1 => ∃ k, x = .bl k ∧ Q k H1) := by
    obtain ⟨ρ, M, F, α, L, R, hh⟩ := rd_to hh
    exact rd_of L R (at_bind hh fun x M1 v H1 F1 α1 s1 R1 r1 h1 => asB_end R1 r1 h1)
  exact chain_at hh
end
abbrev OX := EV → MH → Option (Rs (Option Int))
def oNo : OX := fun _ M => some (.ok none M)
def oSo (g : EX) : OX := fun ρ M => bnd (g ρ M) fun x M1 => match x with
  | .d (.int i) => some (.ok (some i) M1)
  | _ => none
def cutD (xs : List PD) (lo hi : Option Int) : List PD := (xs.drop (HT.sIx xs.length 0 lo)).take (HT.sIx xs.length xs.length hi - HT.sIx xs.length 0 lo)
def slD (x : PD) (lo hi : Option Int) : Option PD := match x with
  | .lst xs => some (.lst (cutD xs lo hi))
  | .scr xs => some (.lst (cutD xs lo hi))
  | .tup xs => some (.tup (cutD xs lo hi))
  | _ => none
def eSl (g : EX) (lo hi : OX) : EX := fun ρ M => bnd (g ρ M) fun x M1 => bnd (lo ρ M1) fun l M2 => bnd (hi ρ M2) fun h M3 => match dv M3 x with
  | some d => okD M3 (slD d l h)
  | none => none
def revD : PD → Option PD
  | .lst xs => some (.lst xs.reverse)
  | .tup xs => some (.tup xs.reverse)
  | .scr xs => some (.lst xs.reverse)
  | _ => none
def rSlD (K : PySem.W.Frag) (T : Tb) : V → Option Int → Option Int → Hp → VK → Prop := fun x lo hi H Q => ∃ M F α d c, HR K T H M F α ∧ Top K T F H x d ∧ slD d lo hi = some c ∧ EndD K T H M F α Q c
section
variable {X : Cx} {T : Tb} {W : WX} {g : EX} {lo hi : OX} {e : Expr} {pos p2 : Pos}
abbrev tO (K : PySem.W.Frag) (T : Tb) (W : WX) (g : OX) : TO := rd K T W (fun _ _ b c => b = c) g
theorem poImp {e : Option Expr} {t u : TO} (h : PO X e t) (i : ∀ σ H Q, u σ H Q → t σ H Q) : PO X e u := ⟨fun pins s σ H Q I hw => h.run pins s σ H Q I (i σ H Q hw)⟩
theorem do_none : PO X none (tO X.K T W oNo) := poImp po_none fun σ H Q h => by
  obtain ⟨ρ, M, F, α, L, R, h⟩ := rd_to h
  exact at_ok R h rfl
theorem do_some (he : PE X e (tE X.K T W g)) : PO X (some e) (tO X.K T W (oSo g)) := poImp (po_some he) fun σ H Q h => by
  obtain ⟨ρ, M, F, α, L, R, h⟩ := rd_to h
  refine rd_of L R (at_bind h fun x M1 v H1 F1 α1 s1 R1 r1 h1 => ?_)
  obtain ⟨q, e, p⟩ := h1
  split at e
  · cases r1
    exact ⟨_, rfl, at_ok R1 ⟨q, e, p⟩ rfl⟩
  · cases e
theorem cut_reps {K : PySem.W.Frag} {F : Hp} {xs : List V} {ds : List PD} (r : Reps K T F xs ds) (lo hi : Option Int) : Reps K T F (cutV xs lo hi) (cutD ds lo hi) := by
  unfold cutV cutD
  rw [r.length]
  exact r.drop.take
theorem dsl : SlR X (rSlD X.K T) := by
  intro pins s σ H x v vl vu lo hi sl Q I rx hs pl pu hw
  obtain ⟨M, F, α, d, c, R, tx, e, fin⟩ := hw
  unfold slD at e
  split at e
  · have q := Option.some.inj e
    subst q
    obtain ⟨a, xs, rfl, h1, r1⟩ := tx.lst_sq R
    exact sl_list pins s σ H _ v vl vu lo hi sl Q I rx hs pl pu ⟨a, xs, rfl, h1, fun p hp => fin.lst R (cut_reps r1 lo hi) hp⟩
  · have q := Option.some.inj e
    subst q
    obtain ⟨a, xs, rfl, h1, r1⟩ := tx.scr R
    exact sl_list pins s σ H _ v vl vu lo hi sl Q I rx hs pl pu ⟨a, xs, rfl, h1, fun p hp => fin.lst R (cut_reps r1 lo hi) hp⟩
  · have q := Option.some.inj e
    subst q
    obtain ⟨a, xs, rfl, h1, f1, r1⟩ := tx.tup R
    refine sl_tupA pins s σ H _ v vl vu lo hi sl Q I rx hs pl pu ⟨a, xs, rfl, h1, fun hz => ?_, fun _ p hp => fin.tup R (cut_reps r1 lo hi) hp⟩
    refine fin.old R (.tup f1 ?_)
    have e1 : cutV xs lo hi = xs := by
      unfold cutV
      rw [hz.1, hz.2, List.drop_zero, Nat.sub_zero, List.take_length]
    have r2 := cut_reps r1 lo hi
    rw [e1] at r2
    exact r2
  · cases e
theorem de_sl {lo' hi' : Option Expr} (he : PE X e (tE X.K T W g)) (hl : PO X lo' (tO X.K T W lo)) (hh : PO X hi' (tO X.K T W hi)) : PE X (.Subscript e (.Slice lo' hi' none p2) pos) (tE X.K T W (eSl g lo hi)) := by
  refine peImp (pe_slice (dsl (T := T)) he hl hh) fun σ H Q h => ?_
  obtain ⟨ρ, M, F, α, L, R, h⟩ := rd_to h
  refine rd_of L R (at_bind h fun x M1 v H1 F1 α1 s1 R1 r1 h1 => ?_)
  refine rd_of (L.mono s1) R1 (at_bind h1 fun l M2 l' H2 F2 α2 s2 R2 r2 h2 => ?_)
  subst r2
  refine rd_of ((L.mono s1).mono s2) R2 (at_bind h2 fun l2 M3 l2' H3 F3 α3 s3 R3 r3 h3 => ?_)
  subst r3
  obtain ⟨q, e, p⟩ := h3
  split at e
  · rename_i d hd
    cases hc : slD d l' l2' with
    | none => rw [hc] at e; cases e
    | some c =>
      rw [hc] at e
      exact ⟨M3, F3, α3, d, c, R3, dv_top R3 ((r1.mono s2).mono s3) hd, hc, end_of (W := W) (σ := σ) ⟨q, e, p⟩⟩
  · cases e
theorem de_rev {k : Nat} {p1 p3 : Pos} (he : PE X e (tE X.K T W g)) : PE X (.Subscript e (.Slice none none (some (.UnaryOp .USub (.Constant (.int 1) k p1) p2)) p3) pos) (tE X.K T W (eUn revD g)) := by
  refine peImp (pe_revA he) fun σ H Q h => ?_
  obtain ⟨ρ, M, F, α, L, R, h⟩ := rd_to h
  refine rd_of L R (at_bind h fun x M1 v H1 F1 α1 s1 R1 r1 h1 => ?_)
  obtain ⟨M2, F2, α2, dx, c, R2, tx, e, fin⟩ := at_op1 (f := revD) R1 r1 h1
  unfold revD at e
  split at e
  · have q := Option.some.inj e
    subst q
    obtain ⟨a, xs, rfl, h1, r1⟩ := tx.lst_sq R2
    exact ⟨a, xs, rfl, .inl ⟨h1, fun p hp => fin.lst R2 r1.reverse hp⟩⟩
  · have q := Option.some.inj e
    subst q
    obtain ⟨a, xs, rfl, h1, h2, r1⟩ := tx.tup R2
    exact ⟨a, xs, rfl, .inr ⟨h1, fun p hp => fin.tup R2 r1.reverse hp⟩⟩
  · have q := Option.some.inj e
    subst q
    obtain ⟨a, xs, rfl, h1, r1⟩ := tx.scr R2
    exact ⟨a, xs, rfl, .inl ⟨h1, fun p hp => fin.lst R2 r1.reverse hp⟩⟩
  · cases e
end
def tyS : PD → Option String
  | .non => some "NoneType"
  | .bl _ => some "bool"
  | .int _ => some "int"
  | .str _ => some "str"
  | .tup _ => some "tuple"
  | .lst _ => some "list"
  | .scr _ => some "list"
  | .dct _ _ => some "dict"
  | .ins _ _ => none
  | .unk => some "str"
  | .exc _ _ => none
/-- each type's own answer; b: what is asked for -/
def isiT (b : String) (a : String) : Bool := a == b || (a == "bool" && b == "int")
def isiD (b : String) (d : PD) : Option PD := match tyS d with
  | some a => some (.bl (isiT b a))
  | none => none
def tyNames : List String := ["NoneType", "bool", "int", "str", "tuple", "list", "dict"]
def kitOkB (b : String) : Bool := tyNames.all fun a => kitB a b == some (isiT b a)
theorem kit_int : kitOkB "int" = true := by decide +kernel
theorem kit_bool : kitOkB "bool" = true := by decide +kernel
theorem kit_str : kitOkB "str" = true := by decide +kernel
theorem kit_tuple : kitOkB "tuple" = true := by decide +kernel
section
variable {X : Cx} {T : Tb} {W : WX} {g : EX} {e : Expr} {pos : Pos}
theorem tyS_mem {d : PD} {a : String} (h : tyS d = some a) : a ∈ tyNames := by
  cases d <;> first | (cases h; decide) | cases h
theorem sqT_ty {K : PySem.W.Frag} {H : Hp} {a : Addr} {xs : List V} (h : SqT K H a xs) : TyX K H (.ref a) (.type "tuple") := by
  rcases h with h | h
  · rcases h with h | ⟨o, h⟩
    · exact .base (.tup h)
    · exact .fTuple h
  · obtain ⟨o, _, _, h1, h2, _⟩ := h
    exact .kTuple h1 h2
theorem sqL_ty {K : PySem.W.Frag} {H : Hp} {a : Addr} {xs : List V} (h : SqL K H a xs) : TyX K H (.ref a) (.type "list") := by
  rcases h with h | h
  · rcases h with h | ⟨o, h⟩
    · exact .base (.lst h)
    · exact .base (.frz h)
  · obtain ⟨o, _, _, h1, h2, _⟩ := h
    exact .kList h1 h2
theorem top_ty {K : PySem.W.Frag} {F H : Hp} {α : List Addr} {M : MH} (R : HR K T H M F α) {d : PD} {v : V} {a : String} (t : Top K T F H v d) (h : tyS d = some a) : TyX K H v (.type a) := by
  cases d with
  | non => obtain rfl := t.non; cases h; exact .base .non
  | bl b => obtain rfl := t.bl; cases h; exact .base (.bl b)
  | int b => obtain rfl := t.int; cases h; exact .base (.int b)
  | str b => obtain rfl := t.str; cases h; exact .base (.str b)
  | tup ds =>
    obtain ⟨p, xs, rfl, h1, _⟩ := t.tup R
    cases h
    exact sqT_ty h1
  | lst ds =>
    obtain ⟨p, xs, rfl, h1, _⟩ := t.lst R
    cases h
    exact .base (.lst h1)
  | scr ds =>
    obtain ⟨p, xs, rfl, h1, _⟩ := t.scr R
    cases h
    exact sqL_ty h1
  | dct ks ds =>
    obtain ⟨p, kvs, rfl, h1, _⟩ := t.dct R
    cases h
    rcases h1 with h1 | ⟨o, h1⟩
    · exact .base (.dK h1)
    · exact .fDict h1
  | ins c ds => cases h
  | unk => obtain ⟨x, rfl⟩ := t.unk; cases h; exact .base (.str x)
  | exc c ds => cases h
theorem de_isi {b : String} {x : Str} {pf px : Pos} (hb : kitOkB b = true) (ha : PE X e (tE X.K T W g)) (hm : X.mg "isinstance" = none) (hmx : X.mg x = none) (hbx : bootBuiltins x = some (.type b)) (hg : Gl X "isinstance" := by rfl) (hgx : Gl X x := by rfl)
    (hx : x ≠ "__name__" := by decide) (hdx : (x == ("__debug__" : Str)) = false := by decide)
    (he : starEach [e, .Name x px] X.env = (false, eval e X.env) :: starEach [.Name x px] X.env := by rfl) (he2 : starEach [.Name x px] X.env = (false, eval (.Name x px) X.env) :: starEach [] X.env := by rfl) (hpl : (backTo pos (starEach [.Name x px] X.env)).any (·.1) = false := by rfl) :
    PE X (.Call (.Name "isinstance" pf) [e, .Name x px] [] pos) (tE X.K T W (eUn (isiD b) g)) := by
  have hc : PE X (.Name x px) (tC (.ty b)) := pe_bltn hgx hmx hbx rfl hx hdx
  refine peImp (pe_callB call_isi hg hm rfl (pa_cons ha (pa_cons hc pa_nil he2) he) (by decide) (by decide) he hpl) fun σ H Q h => ?_
  obtain ⟨ρ, M, F, α, L, R, h⟩ := rd_to h
  refine rd_of L R (at_bind h fun z M1 v H1 F1 α1 s1 R1 r1 h1 => ?_)
  obtain ⟨M2, F2, α2, dx, c, R2, tx, e, fin⟩ := at_op1 (f := isiD b) R1 r1 h1
  unfold isiD at e
  split at e
  · rename_i a hd
    have q := Option.some.inj e
    subst q
    refine ⟨_, _, _, _, _, rfl, .ty b, top_ty R2 tx hd, kit_ty ?_, fin.bl R2⟩
    have := List.all_eq_true.mp hb a (tyS_mem hd)
    exact eq_of_beq this
  · cases e
end
def apndX (x y : VL) (M : MH) : Option (Rs VL) := match x, y with
  | .r k, .d d => (match M[k]? with
    | some (.lst ds) => if ds.length < sizeLine then some (.ok (.d .non) (M.set k (.lst (ds ++ [d])))) else none
    | _ => none)
  | _, _ => none
def isL (M : MH) (x : VL) : Bool := match dv M x with
  | some (.lst _) => true
  | _ => false
def eMt1 (f : VL → VL → MH → Option (Rs VL)) (g h : EX) : EX := fun ρ M => bnd (g ρ M) fun x M1 => if isL M1 x = true then bnd (h ρ M1) fun y M2 => f x y M2 else none
def eApnd (g h : EX) : EX := eMt1 apndX g h
def extX (x y : VL) (M : MH) : Option (Rs VL) := match x, dv M y with
  | .r k, some (.lst es) => (match M[k]? with
    | some (.lst ds) => if ds.length + es.length ≤ sizeLine then some (.ok (.d .non) (M.set k (.lst (ds ++ es)))) else none
    | _ => none)
  | _, _ => none
def eExt (g h : EX) : EX := eMt1 extX g h
def setX (o i v : VL) (M : MH) : Option MH := match o, i, v with
  | .r k, .d (.int n), .d d => (match M[k]? with
    | some (.lst ds) => (match ixN ds.length n with
      | some j => some (M.set k (.lst (ds.set j d)))
      | none => none)
    | _ => none)
  | _, _, _ => none
def gSb (go gi : EX) : TGX := fun v ρ M => match go ρ M with
  | some (.ok o M1) => (match gi ρ M1 with
    | some (.ok i M2) => (match setX o i v M2 with
      | some M3 => some (ρ, M3)
      | none => none)
    | _ => none)
  | _ => none
section
variable {X : Cx} {T : Tb} {W : WX} {g h : EX} {a b : Expr} {pos : Pos}
theorem tyV_lst {K : PySem.W.Frag} {H : Hp} {p : Addr} {xs : List V} (h : H p = some (.lst xs)) : tyV K "list" (.ref p) H := .inl ⟨rfl, xs, SqL.of h⟩
theorem Reps.dropLast {K : PySem.W.Frag} {F : Hp} {vs : List V} {ds : List PD} (r : Reps K T F vs ds) : Reps K T F vs.dropLast ds.dropLast := by
  rw [List.dropLast_eq_take, List.dropLast_eq_take, r.length]
  exact r.take
theorem tyV_isL {K : PySem.W.Frag} {F H : Hp} {α : List Addr} {M : MH} (R : HR K T H M F α) {v : V} {x : VL} (r : RepV K T F α v x) (h : isL M x = true) : tyV K "list" v H := by
  unfold isL at h
  split at h
  · rename_i d hd
    obtain ⟨a, xs, rfl, h1, _⟩ := (dv_top R r hd).lst R
    exact tyV_lst h1
  · cases h
theorem mt1_at {f : VL → VL → MH → Option (Rs VL)} {r : V → List V → Hp → VK → Prop} (hf : ∀ (x y : V) (vx vy : VL) (H F : Hp) (α : List Addr) (M : MH) (σ : L2.St) (Q : VK), HR X.K T H M F α → RepV X.K T F α x vx → RepV X.K T F α y vy → at_ X.K T W (RepV X.K T) σ H F α Q (f vx vy M) → r x [y] H Q)
    {σ : L2.St} {H : Hp} {Q : VK} (hh : tE X.K T W (eMt1 f g h) σ H Q) : tBM X.K "list" r (tE X.K T W g) (tCons (tE X.K T W h) tNil) σ H Q := by
  obtain ⟨ρ, M, F, α, L, R, hh⟩ := rd_to hh
  refine rd_of L R (at_bind hh fun x M1 v H1 F1 α1 s1 R1 r1 h1 => ?_)
  obtain ⟨q, e, p⟩ := h1
  split at e
  · rename_i hl
    refine ⟨tyV_isL R1 r1 hl, rd_of (L.mono s1) R1 (at_bind (W := W) (σ := σ) ⟨q, e, p⟩ fun y M2 w H2 F2 α2 s2 R2 r2 h2 => ?_)⟩
    exact hf _ _ _ _ _ _ _ _ _ _ R2 (r1.mono s2) r2 h2
  · cases e
theorem apnd_at {x y : V} {vx vy : VL} {H F : Hp} {α : List Addr} {M : MH} {σ : L2.St} {Q : VK} (R : HR X.K T H M F α) (rx : RepV X.K T F α x vx) (ry : RepV X.K T F α y vy) (h : at_ X.K T W (RepV X.K T) σ H F α Q (apndX vx vy M)) : rAppend x [y] H Q := by
  obtain ⟨q, e, p⟩ := h
  unfold apndX at e
  split at e
  · rename_i k d
    obtain ⟨a, ha, rfl⟩ := rx
    split at e
    · rename_i ds hm
      obtain ⟨xs, h1, h2⟩ := R.obj k _ a hm ha
      split at e
      · rename_i hl
        refine ⟨a, xs, y, rfl, rfl, h1, by rw [h2.length]; exact hl, ?_⟩
        have R' := R.write (o := .lst (xs ++ [y])) (mo := .lst (ds ++ [d])) ha (by rw [hm]; simp) ⟨_, upd_same, h2.append (.cons ry .nil)⟩
        exact at_okS (W := W) (σ := σ) (v := V.non) (step_write ha) R' ⟨q, e, p⟩ Rep.non
      · cases e
    · cases e
  · cases e
theorem de_apnd {apos : Pos} (ha : PE X a (tE X.K T W g)) (hb : PE X b (tE X.K T W h)) (hbase : attributeBase a "append" X.env (eval a X.env) = eval a X.env := by rfl) (hline : (apos.endLine == pos.line) = true := by rfl)
    (hs : starEach [b] X.env = (false, eval b X.env) :: starEach [] X.env := by rfl)
    (hfew : ((backTo pos (starEach [b] X.env)).all (fun x => !x.1) && (backToKw pos (keywordEach [] X.env)).all (fun x => x.1.isSome)
      && decide ([b].length + ([] : List Keyword).length + (if ([] : List Keyword).isEmpty then 0 else 1) < 30)) = true := by rfl) :
    PE X (.Call (.Attribute a "append" apos) [b] [] pos) (tE X.K T W (eApnd g h)) :=
  peImp (pe_bm PySem.F.plainAttrs_list PySem.F.slot_list_append rfl mt_append ha (pa_cons hb pa_nil hs) hbase hfew hline hs rfl) fun σ H Q hh => mt1_at (fun _ _ _ _ _ _ _ _ _ _ R rx ry h => apnd_at R rx ry h) hh
theorem dg_sub {go gi : EX} (ho : PE X a (tE X.K T W go)) (hi : PE X b (tE X.K T W gi))
    (ha : ∀ v, assign (.Subscript a b pos) X.env v = (do
      let ov ← holding [v] (eval a X.env)
      let iv ← holding [v, ov] (eval b X.env)
      standAt pos
      holding [v, ov, iv] (setItem ov iv v)
      release [v, ov, iv] []) := by intro _; rfl) : PG X (.Subscript a b pos) (gD X.K T (gSb go gi)) := by
  refine ⟨fun pins s σ H v u Q I r h => (pg_sub ho hi set_list ha).run pins s σ H v u Q I r ?_⟩
  obtain ⟨ρ, M, F, α, vl, L, R, rv, ρ', M', e, fin⟩ := h
  unfold gSb at e
  cases h1 : go ρ M with
  | none => rw [h1] at e; cases e
  | some z =>
    rw [h1] at e
    cases z with
    | ex _ _ _ => cases e
    | ok o M1 =>
      refine ⟨ρ, M, F, α, L, R, _, h1, fun ov H1 F1 α1 R1 s1 ro => ?_⟩
      dsimp only at e
      cases h2 : gi ρ M1 with
      | none => rw [h2] at e; cases e
      | some z =>
        rw [h2] at e
        cases z with
        | ex _ _ _ => cases e
        | ok i M2 =>
          refine ⟨ρ, M1, F1, α1, L.mono s1, R1, _, h2, fun iv H2 F2 α2 R2 s2 ri => ?_⟩
          dsimp only at e
          cases h3 : setX o i vl M2 with
          | none => rw [h3] at e; cases e
          | some M3 =>
            rw [h3] at e
            have e2 := Option.some.inj e
            cases e2
            have ro2 := ro.mono s2
            have rv2 := (rv.mono s1).mono s2
            unfold setX at h3
            split at h3
            · rename_i k n d
              obtain ⟨a, ha, rfl⟩ := ro2
              cases ri
              split at h3
              · rename_i ds hm
                obtain ⟨xs, g1, g2⟩ := R2.obj k _ a hm ha
                split at h3
                · rename_i j hj
                  have e3 := Option.some.inj h3
                  subst e3
                  refine ⟨a, xs, n, j, rfl, rfl, g1, by rw [g2.length]; exact hj, ?_⟩
                  have R' := R2.write (o := .lst (xs.set j v)) (mo := .lst (ds.set j d)) ha (by rw [hm]; simp) ⟨_, upd_same, g2.set rv2⟩
                  exact fin σ _ F2 α2 ((L.mono s1).mono s2) R' ((s1.trans s2).trans (step_write ha))
                · cases h3
              · cases h3
            · cases h3
end
def srtI (ns : List Int) : List Int := ns.mergeSort fun a b => decide (a ≤ b)
def sortedD : List PD → Option PD
  | [.lst a] => (match intsOf a with
    | some ns => some (.lst ((srtI ns).map .int))
    | none => none)
  | _ => none
section
variable {X : Cx} {T : Tb}
theorem srt_uniq : ∀ {a b : List Int}, a.Perm b → a.Pairwise (· ≤ ·) → b.Pairwise (· ≤ ·) → a = b := fun {a b} h h1 h2 => h.eq_of_pairwise (fun x y _ _ h1 h2 => by omega) h1 h2
theorem reps_ints {K : PySem.W.Frag} {F : Hp} : ∀ ns : List Int, Reps K T F (ns.map V.int) (ns.map PD.int)
  | [] => .nil
  | n :: ns => .cons (.int n) (reps_ints ns)
end
end Mi
namespace Mi
open PySem PySem.Spec PyProof.Rows L2
/-- where a def stands: a global, a class's function, what stands behind a property or a classmethod -/
def fA (K : PySem.W.Frag) (p : Str × Option Str) : Addr := match p.2 with
  | none => He.ga K p.1
  | some m => (match PySem.W.recIn K (He.ma K (He.ga K p.1) m) "property" with
    | some (.ref g :: _) => g
    | _ => (match PySem.W.recIn K (He.ma K (He.ga K p.1) m) "classmethod" with
      | some (.ref g :: _) => g
      | _ => He.ma K (He.ga K p.1) m))
def fdK (K : PySem.W.Frag) (p : Str × Option Str) : FuncData := match K.lookup (fA K p) with
  | some ⟨_, _, .func fd, _⟩ => fd
  | _ => default
def fnWm (K : PySem.W.Frag) (p : Str × Option Str) : He.FnW := match K.lookup (fA K p) with
  | some ⟨_, _, .func fd, _⟩ => some (fd.name, fd.qualname, fd.params, fd.body, fd.scope, fd.globals, fd.closure, fd.builtins)
  | _ => none
def okM (K : PySem.W.Frag) (d : He.DefD) : Bool := PySem.W.keepIn K (.ref (fA K d.at_)) && (match K.lookup (fA K d.at_) with
  | some ⟨_, _, .func fd, _⟩ => PySem.W.codeIn K fd.code d.qual && (He.dflB K fd.defaults (d.dvs K) && He.kwdB K fd.kwdefaults (d.kws K))
  | _ => false)
theorem funM {K : PySem.W.Frag} {d : He.DefD} (e : fnWm K d.at_ = d.val) (c : okM K d = true) : FunD K d.name d.qual d.params d.body d.scope (d.dvs K) (d.kws K) (fA K d.at_) (fdK K d.at_) := by
  obtain ⟨kp, c2⟩ := He.ba c
  unfold fnWm at e
  unfold fdK
  cases q : K.lookup (fA K d.at_) with
  | none =>
    rw [q] at c2
    cases c2
  | some o =>
    obtain ⟨oc, od, dt, osl⟩ := o
    rw [q] at c2 e
    cases dt with
    | func fd =>
      obtain ⟨n1, n2, n3, n4, n5, n6, n7, n8, n9, n10, n11, n12, n13, n14, n15⟩ := fd
      have e2 : (some (n1, n2, n3, n4, n5, n6, n7, n15) : He.FnW) = some (d.name, d.qual, d.params, .stmts d.body, d.scope, mainGlobals, [], builtinsNs) := e
      simp only [Option.some.injEq, Prod.mk.injEq] at e2
      obtain ⟨h1, h2, h3, h4, h5, h6, h7, h8⟩ := e2
      subst h1 h2 h3 h4 h5 h6 h7 h8
      have c3 : (PySem.W.codeIn K n13 d.qual && (He.dflB K n8 (d.dvs K) && He.kwdB K n9 (d.kws K))) = true := c2
      obtain ⟨k1, k2⟩ := He.ba c3
      obtain ⟨k3, k4⟩ := He.ba k2
      exact ⟨⟨oc, od, n8, n9, n10, n11, n12, n13, n14, osl, rfl, q, k1, He.dflB_ok k3, He.kwdB_ok k4⟩, kp⟩
    | _ => cases c2
structure SaysM (fn : List He.DefD) (K : PySem.W.Frag) : Prop where
  ok : (fn.all fun d => okM K d) = true
  eq : (fn.map fun d => fnWm K d.at_) = fn.map He.DefD.val
def visB (st : Nat × List Addr) (r : Addr) : Nat × List Addr := bif Nat.beq (Nat.land (Nat.shiftRight st.1 r) 1) 1 then st else (Nat.lor st.1 (Nat.shiftLeft 1 r), r :: st.2)
def rndB (g : Addr → Option Obj) (m : Nat) (fr : List Addr) : Nat × List Addr := fr.foldl (fun st a => match g a with
  | some o => (He.refsD o).foldl visB st
  | none => st) (m, [])
def grwB (g : Addr → Option Obj) : Nat → Nat × List Addr × List Addr
  | 0 => (Nat.lor (Nat.shiftLeft 1 mainGlobals) (Nat.shiftLeft 1 cStatics), [mainGlobals, cStatics], [mainGlobals, cStatics])
  | n + 1 => match grwB g n with
    | (m, al, fr) => match rndB g m fr with
      | (m2, nf) => (m2, al ++ nf, nf)
def asL (g : Addr → Option Obj) (n : Nat) : List Addr := (grwB g n).2.1
def obsY (n : Nat) (fa : List He.Fa) (ts : List He.Tab) (tf : List He.Defn) (ex : PySem.W.Frag → Bool) (g : Addr → Option Obj) : He.AlX := (He.obsT fa [] ts (He.frT g (asL g n)), ex (He.frT g (asL g n)) && He.tabsB g tf (He.frT g (asL g n)))
theorem saysY_of {n : Nat} {fa : List He.Fa} {ts : List He.Tab} {tf : List He.Defn} {ex : PySem.W.Frag → Bool} {w : World} {h : Heap} (e : obsY n fa ts tf ex h.get? = He.valX [] ts w) : He.SaysX fa [] ts tf ex w h (He.frT h.get? (asL h.get? n)) := by
  have e1 : He.obsT fa [] ts (He.frT h.get? (asL h.get? n)) = He.valT [] ts w := congrArg (fun z : He.AlX => z.1) e
  have e2 : (ex (He.frT h.get? (asL h.get? n)) && He.tabsB h.get? tf (He.frT h.get? (asL h.get? n))) = true := congrArg (fun z : He.AlX => z.2) e
  have one : ∀ p ∈ tf, PySem.W.codeHdIn (He.frT h.get? (asL h.get? n)) (He.cT (He.frT h.get? (asL h.get? n)) p).1 (He.cT (He.frT h.get? (asL h.get? n)) p).2 = true ∧ ∃ o, h.get? (He.cT (He.frT h.get? (asL h.get? n)) p).2 = some o ∧ He.emptyTab o = true := fun p hp => by
    obtain ⟨h3, h4⟩ := He.ba (List.all_eq_true.mp (He.ba e2).2 p hp)
    refine ⟨h3, ?_⟩
    split at h4
    · rename_i o q
      exact ⟨o, q, h4⟩
    · cases h4
  refine ⟨e1, (He.ba e2).1, fun p hp => (one p hp).1, fun p hp => ?_, fun p hp => ?_⟩
  · obtain ⟨_, o, q, z⟩ := one p hp
    exact He.frT_none q z
  · obtain ⟨_, o, q, z⟩ := one p hp
    rw [q, He.emptyTab_eq z]
abbrev AlM : Type := He.AlX × Bool × List He.FnW
def obsM (n : Nat) (fa : List He.Fa) (fn : List He.DefD) (ts : List He.Tab) (tf : List He.Defn) (ex : PySem.W.Frag → Bool) (g : Addr → Option Obj) : AlM :=
  (obsY n fa ts tf ex g, (fn.all fun d => okM (He.frT g (asL g n)) d), fn.map fun d => fnWm (He.frT g (asL g n)) d.at_)
def valM (fn : List He.DefD) (ts : List He.Tab) (w : World) : AlM := (He.valX [] ts w, true, fn.map He.DefD.val)
def hookM (n : Nat) (fa : List He.Fa) (fn : List He.DefD) (ts : List He.Tab) (tf : List He.Defn) (ex : PySem.W.Frag → Bool) : PySem.W.Hook where
  α := AlM
  obs := fun s => obsM n fa fn ts tf ex s.heap.get?
  val := fun w => valM fn ts w
  says := fun w h => ∃ K : PySem.W.Frag, K.In h ∧ He.SaysX fa [] ts tf ex w h K ∧ SaysM fn K
  of := fun _ _ e => ⟨_, He.frT_in, saysY_of (congrArg (fun z : AlM => z.1) e), congrArg (fun z : AlM => z.2.1) e, congrArg (fun z : AlM => z.2.2) e⟩
  keeps := fun _ _ _ ⟨K, hK, c, m⟩ k => ⟨K, PySem.W.Frag.In.keeps hK k, ⟨c.t, c.more, c.hd, c.out, fun p hp => k _ _ (c.empty p hp)⟩, m⟩
theorem obsM_eq {n : Nat} {fa : List He.Fa} {fn : List He.DefD} {ts : List He.Tab} {tf : List He.Defn} {ex : PySem.W.Frag → Bool} {g : Addr → Option Obj} {s : Shared} (h : ∀ a, g a = s.heap.get? a) : obsM n fa fn ts tf ex g = (hookM n fa fn ts tf ex).obs s := by
  have e : g = s.heap.get? := funext h
  rw [e] <;> rfl
structure Ev (fa : List He.Fa) (fn : List He.DefD) (ts : List He.Tab) (ex : PySem.W.Frag → Bool) (w : World) (K : PySem.W.Frag) (mg : Str → Option Value) : Prop where
  c : He.SaysD fa [] K
  t : He.SaysT fa [] ts w K
  x : ex K = true
  m : SaysM fn K
  h : ∃ h : Heap, K.In h ∧ h.Ns mainGlobals mg
section
variable {fa : List He.Fa} {fn : List He.DefD} {ts : List He.Tab} {ex : PySem.W.Frag → Bool} {w : World} {K : PySem.W.Frag} {mg : Str → Option Value}
theorem Ev.glo (E : Ev fa fn ts ex w K mg) (i : Nat) {x : Str} (e : fa[i]? = some (.glo x) := by rfl) : mg x = some (.ref (He.ga K x)) := let ⟨_, X, G⟩ := E.h; He.glo_ok X G (E.c.fact i e)
theorem Ev.free (E : Ev fa fn ts ex w K mg) (i : Nat) {x : Str} (e : fa[i]? = some (.free x) := by rfl) : mg x = none := let ⟨_, X, G⟩ := E.h; He.free_ok X G (E.c.fact i e)
theorem Ev.int (E : Ev fa fn ts ex w K mg) (i : Nat) {x : Str} {j : Int} (e : fa[i]? = some (.int x j) := by rfl) : ∃ t, mg x = some (.int j t) := let ⟨_, X, G⟩ := E.h; He.int_ok X G (E.c.fact i e)
theorem Ev.str (E : Ev fa fn ts ex w K mg) (i : Nat) {x z : Str} (e : fa[i]? = some (.str x z) := by rfl) : ∃ t, mg x = some (.str z t) := let ⟨_, X, G⟩ := E.h; He.str_ok X G (E.c.fact i e)
theorem Ev.df (E : Ev fa fn ts ex w K mg) (i : Nat) {d : He.DefD} (e : fn[i]? = some d := by rfl) : FunD K d.name d.qual d.params d.body d.scope (d.dvs K) (d.kws K) (fA K d.at_) (fdK K d.at_) := by
  have e1 : (fn.map fun d => fnWm K d.at_)[i]? = (fn.map He.DefD.val)[i]? := by rw [E.m.eq]
  rw [List.getElem?_map, List.getElem?_map, e] at e1
  exact funM (Option.some.inj e1) (List.all_eq_true.mp E.m.ok d (List.mem_of_getElem? e))
end
section
variable {X : Cx} {T : Tb} {W : WX} {pos : Pos}
theorem de_gint {x : Str} {i : Int} (h : ∃ t, X.mg x = some (.int i t)) (hg : Gl X x := by rfl) (hd : (x == ("__debug__" : Str)) = false := by decide) : PE X (.Name x pos) (tE X.K T W (eC (.int i))) := by
  obtain ⟨t, h⟩ := h
  exact de_cst (v := V.int i) (pe_glob hg h ⟨t, rfl⟩ hd) fun _ => .int i
theorem de_gstr {x : Str} {i : Str} (h : ∃ t, X.mg x = some (.str i t)) (hg : Gl X x := by rfl) (hd : (x == ("__debug__" : Str)) = false := by decide) : PE X (.Name x pos) (tE X.K T W (eC (.str i))) := by
  obtain ⟨t, h⟩ := h
  exact de_cst (v := V.str i) (pe_glob hg h ⟨t, rfl⟩ hd) fun _ => .str i
end
theorem GG_succ {tab : Nat → Option Body} {n f : Nat} {fz : Bool} {ar sl : Nat} {b : (Nat → Fn) → SX} (h : tab f = some (fz, ar, sl, b)) : GG tab (n + 1) f = runFn fz ar sl (b (GG tab n)) := by
  show (match tab f with
    | some (fz, ar, sl, b) => runFn fz ar sl (b (GG tab n))
    | none => fun _ _ => none) = _
  rw [h]
theorem GG_none {tab : Nat → Option Body} {n f : Nat} (h : tab f = none) : GG tab (n + 1) f = fun _ _ => none := by
  show (match tab f with
    | some (fz, ar, sl, b) => runFn fz ar sl (b (GG tab n))
    | none => fun _ _ => none) = _
  rw [h]
def Lev (P : Program) (w : World) (K : PySem.W.Frag) (mg : Str → Option Value) (base : Heap) (T : Tb) (fn : List He.DefD) (ids : List (Nat × List Str)) (tab : Nat → Option Body) (n : Nat) : Prop :=
  ∀ (i : Nat) (d : He.DefD) (k : Nat × List Str), fn[i]? = some d → ids[i]? = some k → FnOk P w K mg base (L2N.CX P w) (8 * n) (fA K d.at_) (fdK K d.at_) k.2 (fnD K T (GG tab n k.1))
section
variable {P : Program} {w : World} {K : PySem.W.Frag} {mg : Str → Option Value} {base : Heap} {T : Tb} {fn : List He.DefD} {ids : List (Nat × List Str)} {tab : Nat → Option Body}
theorem fn_none {n : Nat} {f : Addr} {fd : FuncData} {ps : List Str} : FnOk P w K mg base (L2N.CX P w) n f fd ps (fnD K T fun _ _ => none) := by
  have no : ∀ vs H Q E, fnD K T (fun _ _ => none) vs H Q E → False := fun vs H Q E h => by
    obtain ⟨_, _, _, _, _, _, _, e, _⟩ := h
    cases e
  exact ⟨fun vs H Q E h => (no vs H Q E h).elim, fun _ _ _ _ _ _ _ _ _ _ _ _ _ h => (no _ _ _ _ h).elim⟩
theorem lev_zero : Lev P w K mg base T fn ids tab 0 := fun i d k _ _ => fn_none
theorem lev_all (step : ∀ n, Lev P w K mg base T fn ids tab n → Lev P w K mg base T fn ids tab (n + 1)) : ∀ n, Lev P w K mg base T fn ids tab n
  | 0 => lev_zero
  | n + 1 => step n (lev_all step n)
end
theorem fn_cx0 {P : Program} {w : World} {K : PySem.W.Frag} {mg : Str → Option Value} {base : Heap} {T : Tb} {n : Nat} {f : Addr} {fd : FuncData} {ps : List Str} {g : Fn} (F : FnOk P w K mg base (L2N.CX P w) n f fd ps (fnD K T g)) :
    FnOk P w K mg base CX0 n f fd ps (fun vs H Q _ => fnD K T g vs H Q fun _ _ _ => False) :=
  ⟨fun vs H Q E h => F.len vs H Q _ h, fun A outer s H args us vs Q E hr e b r h => codeAny_mono (F.run A outer s H args us vs Q _ hr e b r h) fun res s' q => by
    cases res with
    | ok fl => cases fl <;> exact q
    | error u =>
      obtain ⟨_, _, _, _, _, _, _, _, _, _, _, _, z⟩ := q
      exact z.elim⟩
/-- a law's script, at the start -/
theorem start_at {K : PySem.W.Frag} {T : Tb} {H : Hp} {a : Addr} {ns : List Int} {E : XK} {f : Fn} (hS : SqL K H a (ns.map V.int)) (h : ∃ M', f [.d (.scr (ns.map .int))] [] = some (.ok (.d (.bl true)) M')) (hT : ∀ q ∈ T.tb, H q.1 = some (.tbl #[]) := by intro q hq; cases hq) : fnD K T f [.ref a] H (fun v _ => v = .bl true) E := by
  obtain ⟨M', h⟩ := h
  obtain ⟨F, hF⟩ : ∃ F : Hp, F = fun b => match H b with
    | some (.tbl _) => none
    | u => u := ⟨_, rfl⟩
  have fr : ∀ b o, F b = some o → H b = some o := fun b o e => by
    rw [hF] at e
    dsimp only at e
    split at e
    · cases e
    · exact e
  have to : ∀ b o, H b = some o → (∀ ps, o ≠ .tbl ps) → F b = some o := fun b o e n => by
    rw [hF]
    dsimp only
    split
    · rename_i ps q
      exact (n ps (Option.some.inj (e.symm.trans q))).elim
    · exact e
  have hS2 : SqL K F a (ns.map V.int) := by
    rcases hS with (e | ⟨o, e⟩) | e
    · exact .inl (.inl (to _ _ e fun ps z => by cases z))
    · exact .inl (.inr ⟨o, to _ _ e fun ps z => by cases z⟩)
    · exact .inr e
  refine ⟨[], F, [], _, ⟨fun a o e => .inl (fr a o e), rfl, List.nodup_nil, fun _ m => (List.not_mem_nil m).elim, fun k a e => by simp at e, fun k mo a e => by simp at e, fun k mo e => by simp at e, fun q hq => ⟨⟨#[], hT q hq, True.intro, fun pos cv hc => by have z : codeAmong pos [] = some cv := hc; simp [codeAmong] at z⟩, ?_, List.not_mem_nil⟩⟩, RepVs.cons (d := .d (.scr (ns.map .int))) (Rep.scr hS2 (reps_ints ns)) .nil, _, h, fun v H' F' α' _ _ r => ?_⟩
  · rw [hF]
    dsimp only
    rw [hT q hq]
  · cases r
    rfl
end Mi
namespace Mi
open PySem PySem.Spec PyProof.Rows RZ
/-- an iterator at `it` over the items of `l`, as far as zip asks it -/
structure Src (prog : Program) (w : World) (it l : Addr) (xs : Array Value) (P : Heap → Nat → Prop) : Prop where
  ext : ∀ {h h' : Heap} {b : Addr} {k : Nat}, P h k → Heap.ExtBut b h h' → it ≠ b → l ≠ b → P h' k
  at_ : ∀ {h h' : Heap} {k : Nat}, P h k → (∀ o, h.get? it = some o → h'.get? it = some o) → (∀ o, h.get? l = some o → h'.get? l = some o) → P h' k
  item : ∀ {A : Around} {E : Value → Shared → Prop} {s : Shared} {k : Nat} {x : Value} {Q : Value → Shared → Prop}, l ≠ it → P s.heap k → xs[k]? = some x → (∀ h', P h' (k + 1) → Heap.SameBut it s.heap h' → Q x { s with heap := h' }) → wpAny (model prog w) A (Builtin.SmallTypes.nextOf (.ref it)) Q E s
  stop : ∀ {A : Around} {E : Value → Shared → Prop} {s : Shared} {k : Nat} {Q : Value → Shared → Prop}, A.handled = none → P s.heap k → xs[k]? = none → (∀ h' e, Heap.ExtBut it s.heap h' → (∃ o, h'.get? e = some o ∧ o.cls = .type "StopIteration") → E (.ref e) { s with heap := h' }) → wpAny (model prog w) A (Builtin.SmallTypes.nextOf (.ref it)) Q E s
theorem src_list {prog : Program} {w : World} {it l : Addr} {xs : Array Value} : Src prog w it l xs fun h k => h.IsListIter it l k ∧ h.IsList l xs where
  ext := fun p e a b => ⟨p.1.extBut e a, p.2.extBut e b⟩
  at_ := fun p e f => ⟨p.1.at e, let ⟨o, ho, r⟩ := p.2; ⟨o, f _ ho, r⟩⟩
  item := fun hn p hx hQ => wpAny_nextOf_list_item p.1 p.2 hx fun h' h1 sb => hQ h' ⟨h1, p.2.extBut sb.extBut hn⟩ sb
  stop := fun hh p hx hE => wpAny_nextOf_list_end hh p.1 p.2 hx hE
theorem src_tup {prog : Program} {w : World} {it l : Addr} {xs : Array Value} : Src prog w it l xs fun h k => h.IsTupleIter it l k ∧ h.IsTuple l xs where
  ext := fun p e a b => ⟨p.1.extBut e a, p.2.extBut e b⟩
  at_ := fun p e f => ⟨p.1.at e, let ⟨o, ho, r⟩ := p.2; ⟨o, f _ ho, r⟩⟩
  item := fun hn p hx hQ => nextOf_tuple_item p.1 p.2 hx fun h' h1 sb => hQ h' ⟨h1, p.2.extBut sb.extBut hn⟩ sb
  stop := fun hh p hx hE => nextOf_tuple_end hh p.1 p.2 hx hE
section
variable {prog : Program} {w : World} {A : Around} {E : Value → Shared → Prop} {s : Shared} {P1 P2 : Heap → Nat → Prop}
theorem zipS_item {z TI TO i1 i2 l1 l2 : Addr} {k1 k2 : Nat} {xs ys : Array Value} {x y a b : Value} {Q : Value → Shared → Prop} (D : ZipApart z TI TO i1 i2 l1 l2) (S1 : Src prog w i1 l1 xs P1) (S2 : Src prog w i2 l2 ys P2)
    (hz : IsZip s.heap z TI TO .none) (hTI : IsPair s.heap TI (.ref i1) (.ref i2)) (hTO : IsPair s.heap TO a b)
    (h1 : P1 s.heap k1) (h2 : P2 s.heap k2) (hx : xs[k1]? = some x) (hy : ys[k2]? = some y)
    (hQ : ∀ h', IsZip h' z TI TO (rawInt s.heap.objs.size) → IsPair h' TO x y → P1 h' (k1 + 1) → P2 h' (k2 + 1) → IsPair h' s.heap.objs.size x y → h'.objs.size = s.heap.objs.size + 1 →
      (∀ c o, c ≠ z → c ≠ TO → c ≠ i1 → c ≠ i2 → s.heap.get? c = some o → h'.get? c = some o) → Q (.ref s.heap.objs.size) { s with heap := h' }) :
    wpAny (model prog w) A (Builtin.«zip.__next__» ⟨[.ref z], []⟩) (fun fin s' => ∃ v, fin = .done (.ret v) ∧ Q v s') E s := by
  show wpAny _ _ (field (.ref z) 2 >>= _) _ _ _
  refine wpAny_bind (wpAny_field hz rfl (x := .bool false) rfl ?_)
  show wpAny _ _ (field (.ref z) 3 >>= _) _ _ _
  refine wpAny_bind (wpAny_field hz rfl (x := .ref TI) rfl ?_)
  refine wpAny_bind (wpAny_seqItems hTI rfl ?_)
  show wpAny _ _ (Builtin.SmallTypes.ownedTupleIsFree (.ref z) >>= _) _ _ _
  refine wpAny_bind ?_
  unfold Builtin.SmallTypes.ownedTupleIsFree
  refine wpAny_bind (wpAny_field hz rfl (x := .none) rfl (wpAny_pure ?_))
  simp only [if_true]
  refine wpAny_bind (wpAny_rule ?_)
  refine wpAny_bind (wpAny_field hz rfl (x := .ref TO) rfl ?_)
  refine wpAny_bind (wpAny_setField_rec hz (by simp) fun g1 z1 e1 => ?_)
  replace z1 : IsZip g1 z TI TO .ellipsis := z1
  refine wpAny_bind ?_
  simp only [List.zipIdx_cons, List.zipIdx_nil, List.forIn_cons, List.forIn_nil]
  -- the first source
  refine wpAny_bind (wpAny_bind (wpAny_onRaise ?_))
  show wpAny _ _ (Builtin.SmallTypes.nextOf (.ref i1) >>= _) _ _ _
  refine wpAny_bind (S1.item D.l1i1 (S1.ext h1 e1.extBut D.i1z D.l1z) hx fun g2 p2 e2 => wpAny_pure ?_)
  have t2 : IsPair g2 TO a b := e2.extBut _ _ D.TOi1 (e1.extBut _ _ D.TOz hTO)
  refine wpAny_bind (wpAny_seqItems t2 rfl ?_)
  refine wpAny_bind (wpAny_updateSeq_pair t2 fun g3 t3 e3 => ?_)
  replace t3 : IsPair g3 TO x b := t3
  refine wpAny_bind (wpAny_letGo (wpAny_pure ?_))
  -- the second one
  refine wpAny_bind (wpAny_bind (wpAny_onRaise ?_))
  show wpAny _ _ (Builtin.SmallTypes.nextOf (.ref i2) >>= _) _ _ _
  refine wpAny_bind (S2.item D.l2i2 (S2.ext (S2.ext (S2.ext h2 e1.extBut D.i2z D.l2z) e2.extBut D.i12.symm D.l2i1) e3.extBut D.TOi2.symm D.l2TO) hy fun g4 p4 e4 => wpAny_pure ?_)
  have t4 : IsPair g4 TO x b := e4.extBut _ _ D.TOi2 t3
  refine wpAny_bind (wpAny_seqItems t4 rfl ?_)
  refine wpAny_bind (wpAny_updateSeq_pair t4 fun g5 t5 e5 => ?_)
  replace t5 : IsPair g5 TO x y := t5
  refine wpAny_bind (wpAny_letGo (wpAny_pure (wpAny_pure ?_)))
  -- the pair
  refine wpAny_bind (wpAny_seqItems t5 rfl ?_)
  refine wpAny_bind (wpAny_newTuple ?_)
  have hsz : g5.objs.size = s.heap.objs.size := by rw [e5.1, e4.1, e3.1, e2.1, e1.1]
  have z5 : IsZip g5 z TI TO .ellipsis := e5.extBut _ _ D.TOz.symm (e4.extBut _ _ D.i2z.symm (e3.extBut _ _ D.TOz.symm (e2.extBut _ _ D.i1z.symm z1)))
  have kp : ∀ c o, c ≠ z → c ≠ TO → c ≠ i1 → c ≠ i2 → s.heap.get? c = some o → g5.get? c = some o := fun c o c1 c2 c3 c4 e =>
    e5.extBut _ _ c2 (e4.extBut _ _ c4 (e3.extBut _ _ c2 (e2.extBut _ _ c3 (e1.extBut _ _ c1 e))))
  have q1 : P1 g5 (k1 + 1) := S1.ext (S1.ext (S1.ext p2 e3.extBut D.TOi1.symm D.l1TO) e4.extBut D.i12 D.l1i2) e5.extBut D.TOi1.symm D.l1TO
  have q2 : P2 g5 (k2 + 1) := S2.ext p4 e5.extBut D.TOi2.symm D.l2TO
  have zl : z < g5.objs.size := Heap.lt_size z5
  show wpAny _ _ (Builtin.SmallTypes.ownedTupleHandOut (.ref z) (.ref g5.objs.size) >>= _) _ _ _
  refine wpAny_bind ?_
  unfold Builtin.SmallTypes.ownedTupleHandOut
  have z6 : IsZip (g5.push { cls := .type "tuple", data := .seq #[x, y] }) z TI TO .ellipsis := Heap.get?_push_of_some _ z5
  refine wpAny_bind (wpAny_setField_rec z6 (by simp) fun g7 z7 e7 => ?_)
  replace z7 : IsZip g7 z TI TO (rawInt g5.objs.size) := z7
  refine wpAny_setField_rec z7 (by simp) fun g8 z8 e8 => ?_
  replace z8 : IsZip g8 z TI TO (rawInt g5.objs.size) := z8
  have up : ∀ c o, c ≠ z → g5.get? c = some o → g8.get? c = some o := fun c o c1 e => e8.extBut _ _ c1 (e7.extBut _ _ c1 (Heap.get?_push_of_some _ e))
  have t8 : IsPair g8 g5.objs.size x y := e8.extBut _ _ (Nat.ne_of_gt zl) (e7.extBut _ _ (Nat.ne_of_gt zl) (Heap.get?_push_size _ rfl))
  have n8 : g8.objs.size = g5.objs.size + 1 := by rw [e8.1, e7.1, Heap.size_push]
  rw [hsz] at z8 t8 n8
  refine wpAny_pure ⟨_, rfl, ?_⟩
  show Q (.ref g5.objs.size) _
  rw [hsz]
  exact hQ g8 z8 (up _ _ D.TOz t5) (S1.at_ q1 (fun o e => up _ o D.i1z e) fun o e => up _ o D.l1z e) (S2.at_ q2 (fun o e => up _ o D.i2z e) fun o e => up _ o D.l2z e) t8 n8 fun c o c1 c2 c3 c4 e => up c o c1 (kp c o c1 c2 c3 c4 e)
theorem zipS_end {z TI TO i1 i2 l1 l2 : Addr} {k1 k2 : Nat} {xs ys : Array Value} {a b : Value} {Q : Fin → Shared → Prop} (hh : A.handled = none) (D : ZipApart z TI TO i1 i2 l1 l2) (S1 : Src prog w i1 l1 xs P1) (S2 : Src prog w i2 l2 ys P2)
    (hz : IsZip s.heap z TI TO .none) (hTI : IsPair s.heap TI (.ref i1) (.ref i2)) (hTO : IsPair s.heap TO a b)
    (h1 : P1 s.heap k1) (h2 : P2 s.heap k2) (hend : xs[k1]? = none ∨ ys[k2]? = none)
    (hE : ∀ h' e, (∀ c o, c ≠ z → c ≠ TO → c ≠ i1 → c ≠ i2 → s.heap.get? c = some o → h'.get? c = some o) → (∃ o, h'.get? e = some o ∧ o.cls = .type "StopIteration") → E (.ref e) { s with heap := h' }) :
    wpAny (model prog w) A (Builtin.«zip.__next__» ⟨[.ref z], []⟩) Q E s := by
  show wpAny _ _ (field (.ref z) 2 >>= _) _ _ _
  refine wpAny_bind (wpAny_field hz rfl (x := .bool false) rfl ?_)
  show wpAny _ _ (field (.ref z) 3 >>= _) _ _ _
  refine wpAny_bind (wpAny_field hz rfl (x := .ref TI) rfl ?_)
  refine wpAny_bind (wpAny_seqItems hTI rfl ?_)
  show wpAny _ _ (Builtin.SmallTypes.ownedTupleIsFree (.ref z) >>= _) _ _ _
  refine wpAny_bind ?_
  unfold Builtin.SmallTypes.ownedTupleIsFree
  refine wpAny_bind (wpAny_field hz rfl (x := .none) rfl (wpAny_pure ?_))
  simp only [if_true]
  refine wpAny_bind (wpAny_rule ?_)
  refine wpAny_bind (wpAny_field hz rfl (x := .ref TO) rfl ?_)
  refine wpAny_bind (wpAny_setField_rec hz (by simp) fun g1 z1 e1 => ?_)
  replace z1 : IsZip g1 z TI TO .ellipsis := z1
  refine wpAny_bind ?_
  simp only [List.zipIdx_cons, List.zipIdx_nil, List.forIn_cons, List.forIn_nil]
  refine wpAny_bind (wpAny_bind (wpAny_onRaise ?_))
  show wpAny _ _ (Builtin.SmallTypes.nextOf (.ref i1) >>= _) _ _ _
  have last : ∀ {g : Heap} {e : Addr} {oe : Obj}, IsZip g z TI TO .ellipsis → g.get? e = some oe → oe.cls = .type "StopIteration" → e ≠ z := fun hg he hc q => by
    subst q
    rw [hg] at he
    cases he
    simp at hc
  cases hx : xs[k1]? with
  | none =>
    refine wpAny_bind (S1.stop hh (S1.ext h1 e1.extBut D.i1z D.l1z) hx fun g2 e e2 he => ?_)
    obtain ⟨oe, he, hc⟩ := he
    have z2 : IsZip g2 z TI TO .ellipsis := e2 _ _ D.i1z.symm z1
    refine wpAny_setField_rec z2 (by simp) fun g3 _ e3 => hE g3 e (fun c o c1 _ c3 _ q => e3.extBut _ _ c1 (e2 _ _ c3 (e1.extBut _ _ c1 q))) ⟨oe, e3.extBut _ _ (last z2 he hc) he, hc⟩
  | some x =>
    have hy : ys[k2]? = none := by
      rcases hend with q | q
      · rw [hx] at q; cases q
      · exact q
    refine wpAny_bind (S1.item D.l1i1 (S1.ext h1 e1.extBut D.i1z D.l1z) hx fun g2 p2 e2 => wpAny_pure ?_)
    have t2 : IsPair g2 TO a b := e2.extBut _ _ D.TOi1 (e1.extBut _ _ D.TOz hTO)
    refine wpAny_bind (wpAny_seqItems t2 rfl ?_)
    refine wpAny_bind (wpAny_updateSeq_pair t2 fun g3 t3 e3 => ?_)
    refine wpAny_bind (wpAny_letGo (wpAny_pure ?_))
    refine wpAny_bind (wpAny_bind (wpAny_onRaise ?_))
    show wpAny _ _ (Builtin.SmallTypes.nextOf (.ref i2) >>= _) _ _ _
    refine wpAny_bind (S2.stop hh (S2.ext (S2.ext (S2.ext h2 e1.extBut D.i2z D.l2z) e2.extBut D.i12.symm D.l2i1) e3.extBut D.TOi2.symm D.l2TO) hy fun g4 e e4 he => ?_)
    obtain ⟨oe, he, hc⟩ := he
    have z4 : IsZip g4 z TI TO .ellipsis := e4 _ _ D.i2z.symm (e3.extBut _ _ D.TOz.symm (e2.extBut _ _ D.i1z.symm z1))
    refine wpAny_setField_rec z4 (by simp) fun g5 _ e5 => hE g5 e (fun c o c1 c2 c3 c4 q => e5.extBut _ _ c1 (e4 _ _ c4 (e3.extBut _ _ c2 (e2.extBut _ _ c3 (e1.extBut _ _ c1 q))))) ⟨oe, e5.extBut _ _ (last z4 he hc) he, hc⟩
end
section
variable {prog : Program} {w : World} {A : Around} {E : Value → Shared → Prop} {s : Shared} {P1 P2 : Heap → Nat → Prop}
theorem nextS_item {z TI TO i1 i2 l1 l2 : Addr} {k1 k2 : Nat} {xs ys : Array Value} {x y a b : Value} {Q : Option Value → Shared → Prop} (D : ZipApart z TI TO i1 i2 l1 l2) (S1 : Src prog w i1 l1 xs P1) (S2 : Src prog w i2 l2 ys P2)
    (hz : IsZip s.heap z TI TO .none) (hTI : IsPair s.heap TI (.ref i1) (.ref i2)) (hTO : IsPair s.heap TO a b) (h1 : P1 s.heap k1) (h2 : P2 s.heap k2) (hx : xs[k1]? = some x) (hy : ys[k2]? = some y)
    (hQ : ∀ h', IsZip h' z TI TO (rawInt s.heap.objs.size) → IsPair h' TO x y → P1 h' (k1 + 1) → P2 h' (k2 + 1) → IsPair h' s.heap.objs.size x y → h'.objs.size = s.heap.objs.size + 1 →
      (∀ c o, c ≠ z → c ≠ TO → c ≠ i1 → c ≠ i2 → s.heap.get? c = some o → h'.get? c = some o) → Q (some (.ref s.heap.objs.size)) { s with heap := h' }) :
    wpAny (model prog w) A (pyNext (.ref z)) Q E s := by
  have hT : s.TypeIs (.ref z) "zip" := ⟨_, hz, rfl⟩
  unfold pyNext
  exact wpAny_bind (wpAny_attempt (wpAny_callSpecial?_slot (name := Str.ofString "__next__") hT F.slot_zip_next
    (wpAny_call_entry F.slot_zip_next hT F.entry_zip_next
      (zipS_item D S1 S2 hz hTI hTO h1 h2 hx hy fun h' a1 a2 a3 a4 a5 a6 a7 => wpAny_pure (hQ h' a1 a2 a3 a4 a5 a6 a7)) (F.args_zip_next_1 _))))
theorem nextS_end {z TI TO i1 i2 l1 l2 : Addr} {k1 k2 : Nat} {xs ys : Array Value} {a b : Value} {Q : Option Value → Shared → Prop} (hh : A.handled = none) (D : ZipApart z TI TO i1 i2 l1 l2) (S1 : Src prog w i1 l1 xs P1) (S2 : Src prog w i2 l2 ys P2)
    (hz : IsZip s.heap z TI TO .none) (hTI : IsPair s.heap TI (.ref i1) (.ref i2)) (hTO : IsPair s.heap TO a b) (h1 : P1 s.heap k1) (h2 : P2 s.heap k2) (hend : xs[k1]? = none ∨ ys[k2]? = none)
    (hQ : ∀ h', (∀ c o, c ≠ z → c ≠ TO → c ≠ i1 → c ≠ i2 → s.heap.get? c = some o → h'.get? c = some o) → Q none { s with heap := h' }) : wpAny (model prog w) A (pyNext (.ref z)) Q E s := by
  have hT : s.TypeIs (.ref z) "zip" := ⟨_, hz, rfl⟩
  unfold pyNext
  refine wpAny_bind (wpAny_attempt (wpAny_callSpecial?_slot (name := Str.ofString "__next__") hT F.slot_zip_next
    (wpAny_call_entry F.slot_zip_next hT F.entry_zip_next (zipS_end hh D S1 S2 hz hTI hTO h1 h2 hend fun h' e hk he => ?_) (F.args_zip_next_1 _))))
  obtain ⟨o, ho, hc⟩ := he
  refine wpAny_bind (wpAny_isInstance (T := "StopIteration") (b := true) ⟨o, ho, hc⟩ isSubtype_stop ?_)
  exact wpAny_pure (hQ _ hk)
end
/-- the heap behind zip(list, tuple) -/
def zpH1 (h : Heap) (l1 : Addr) : Heap := h.push { cls := .type "list_iterator", data := .fields #[.ref l1, .int 0 0] }
def zpH2 (h : Heap) (l1 l2 : Addr) : Heap := (zpH1 h l1).push { cls := .type "tuple_iterator", data := .fields #[.ref l2, .int 0 0] }
def zpH3 (h : Heap) (l1 l2 : Addr) : Heap := (zpH2 h l1 l2).push { cls := .type "tuple", data := .seq #[.ref h.objs.size, .ref (zpH1 h l1).objs.size] }
def zpH4 (h : Heap) (l1 l2 : Addr) : Heap := (zpH3 h l1 l2).push { cls := .type "tuple", data := .seq #[.none, .none] }
def zpH5 (h : Heap) (l1 l2 : Addr) : Heap := (zpH4 h l1 l2).push { cls := .type "zip", data := .fields #[.none, .bool false, .bool false, .ref (zpH2 h l1 l2).objs.size, .ref (zpH3 h l1 l2).objs.size] }
theorem meets_zip_lt (l1 l2 : Addr) (xs ys : Array Value) :
    Meets (Builtin.«zip.__new__» ⟨[.type "zip", .ref l1, .ref l2], []⟩) (fun _ R s => s.heap.IsList l1 xs ∧ s.heap.IsTuple l2 ys ∧
      R (.ok (.ret (.ref (zpH4 s.heap l1 l2).objs.size))) { s with heap := zpH5 s.heap l1 l2 }) :=
  .of_wp fun prog w A R s h => by
    obtain ⟨hp, g, d, tk, os⟩ := s; obtain ⟨hl1, hl2, h⟩ := h
    have hsub := sub_zip
    have hL1 : Heap.IsList (Shared.heap ⟨hp, g, d, tk, os⟩) l1 xs := hl1
    have hL2 : Heap.IsTuple (Shared.heap ⟨hp.push { cls := .type "list_iterator", data := .fields #[.ref l1, .int 0 0] }, g, d, tk, os⟩) l2 ys := Heap.IsTuple.push hl2 _
    wp_walk using wpAny_pyIter_list hL1, wpAny_pyIter_tuple hL2
    exact ⟨_, rfl, h⟩
end Mi
namespace Mi
open PySem PySem.Spec PyProof.Rows RZ L2
section
variable {prog : Program} {w : World} {A : Around} {E : Value → Shared → Prop} {s : Shared}
theorem call_zip_lt {l1 l2 : Addr} {xs ys : Array Value} {Q : Value → Shared → Prop} (hl1 : s.heap.IsList l1 xs) (hl2 : s.heap.IsTuple l2 ys)
    (h : ∀ h', IsZip h' (s.heap.objs.size + 4) (s.heap.objs.size + 2) (s.heap.objs.size + 3) .none → IsPair h' (s.heap.objs.size + 2) (.ref s.heap.objs.size) (.ref (s.heap.objs.size + 1)) →
      IsPair h' (s.heap.objs.size + 3) .none .none → h'.IsListIter s.heap.objs.size l1 0 → h'.IsTupleIter (s.heap.objs.size + 1) l2 0 → h'.objs.size = s.heap.objs.size + 5 →
      (∀ c o, s.heap.get? c = some o → h'.get? c = some o) → Q (.ref (s.heap.objs.size + 4)) { s with heap := h' }) :
    wpAny (model prog w) A (call (.type "zip") [.ref l1, .ref l2]) Q E s := by
  refine callType_new F.called_zip (by decide) (F.typeCall_zip_2 _ _) (F.newCall_zip_2 _ _) (fun obj => F.args_object_init_3 obj _ _) F.entry_zip_new
    (meets_zip_lt l1 l2 xs ys) ⟨hl1, hl2, ?_⟩
  have z1 : (zpH1 s.heap l1).objs.size = s.heap.objs.size + 1 := Heap.size_push ..
  have z2 : (zpH2 s.heap l1 l2).objs.size = s.heap.objs.size + 2 := by rw [zpH2, Heap.size_push, z1]
  have z3 : (zpH3 s.heap l1 l2).objs.size = s.heap.objs.size + 3 := by rw [zpH3, Heap.size_push, z2]
  have z4 : (zpH4 s.heap l1 l2).objs.size = s.heap.objs.size + 4 := by rw [zpH4, Heap.size_push, z3]
  have z5 : (zpH5 s.heap l1 l2).objs.size = s.heap.objs.size + 5 := by rw [zpH5, Heap.size_push, z4]
  have g5 : (zpH5 s.heap l1 l2).get? (zpH4 s.heap l1 l2).objs.size = some _ := Heap.get?_push_size _ rfl
  have g4 : (zpH5 s.heap l1 l2).get? (zpH3 s.heap l1 l2).objs.size = some _ := Heap.get?_push_of_some _ (Heap.get?_push_size _ rfl)
  have g3 : (zpH5 s.heap l1 l2).get? (zpH2 s.heap l1 l2).objs.size = some _ := Heap.get?_push_of_some _ (Heap.get?_push_of_some _ (Heap.get?_push_size _ rfl))
  have g2 : (zpH5 s.heap l1 l2).get? (zpH1 s.heap l1).objs.size = some _ := Heap.get?_push_of_some _ (Heap.get?_push_of_some _ (Heap.get?_push_of_some _ (Heap.get?_push_size _ rfl)))
  have g1 : (zpH5 s.heap l1 l2).get? s.heap.objs.size = some _ := Heap.get?_push_of_some _ (Heap.get?_push_of_some _ (Heap.get?_push_of_some _ (Heap.get?_push_of_some _ (Heap.get?_push_size _ rfl))))
  show _ ∧ _
  rw [z2, z3, z4] at g5
  rw [z1, z2] at g3
  rw [z3] at g4
  rw [z1] at g2
  rw [z4]
  exact ⟨⟨_, g5, rfl⟩, h _ g5 g3 g4 ⟨_, g1, rfl, rfl⟩ ⟨_, g2, rfl, rfl⟩ z5 fun c o x =>
    Heap.get?_push_of_some _ (Heap.get?_push_of_some _ (Heap.get?_push_of_some _ (Heap.get?_push_of_some _ (Heap.get?_push_of_some _ x))))⟩
end
/-- a list at a and a tuple at b, the items in new pairs -/
def ItzM (K : PySem.W.Frag) (a b : Addr) : It :=
  ⟨fun i H => ∃ (xs ys : List V) (x y : V), SqL K H a xs ∧ SqT K H b ys ∧ xs[i]? = some x ∧ ys[i]? = some y,
    fun i H v H' => ∃ T x y, v = .ref T ∧ H T = none ∧ H' = upd H T (.tup [x, y]) ∧ (∀ xs, SqL K H a xs → xs[i]? = some x) ∧ ∀ ys, SqT K H b ys → ys[i]? = some y,
    fun i H => ∃ xs ys : List V, SqL K H a xs ∧ SqT K H b ys ∧ (xs.length ≤ i ∨ ys.length ≤ i)⟩
theorem turn_zipM {P : Program} {w : World} {K : PySem.W.Frag} {elts : List Expr} {kk : Nat} {tpos : Pos} {a b z TI TO i1 i2 : Addr} (D : ZipApart z TI TO i1 i2 a b) :
    Turn P w K (.Tuple elts kk tpos) (ItzM K a b) [z, TI, TO, i1, i2] z (fun i h => IsZip h z TI TO .none ∧ IsPair h TI (.ref i1) (.ref i2) ∧ (∃ x y, IsPair h TO x y) ∧ h.IsListIter i1 a i ∧ h.IsTupleIter i2 b i) where
  mem := by simp
  obj := fun i h st c hc => by
    obtain ⟨hz, hTI, ⟨x, y, hTO⟩, ⟨o1, e1, _, d1⟩, ⟨o2, e2, _, d2⟩⟩ := st
    have e' : c = z ∨ c = TI ∨ c = TO ∨ c = i1 ∨ c = i2 := by simpa using hc
    rcases e' with q | q | q | q | q
    · rw [q]; exact ⟨_, hz, fun v q => nomatch q⟩
    · rw [q]; exact ⟨_, hTI, fun v q => nomatch q⟩
    · rw [q]; exact ⟨_, hTO, fun v q => nomatch q⟩
    · rw [q]; exact ⟨o1, e1, fun v q => by rw [d1] at q; cases q⟩
    · rw [q]; exact ⟨o2, e2, fun v q => by rw [d2] at q; cases q⟩
  keep := fun i h h' st k => by
    obtain ⟨hz, hTI, ⟨x, y, hTO⟩, h1, h2⟩ := st
    exact ⟨k z (by simp) _ hz, k TI (by simp) _ hTI, ⟨x, y, k TO (by simp) _ hTO⟩, h1.at fun o q => k i1 (by simp) o q, h2.at fun o q => k i2 (by simp) o q⟩
  item := by
    intro X hP hw hK hc i pins s σ H E I hf st hg
    subst hP hw hK
    obtain ⟨hz, hTI, ⟨x0, y0, hTO⟩, h1, h2⟩ := st
    obtain ⟨xs, ys, x, y, hqx, hqy, hx, hy⟩ := hg
    obtain ⟨its, rv, p, _⟩ := I.list hqx
    obtain ⟨its2, rv2, p2, _⟩ := I.tuple hqy
    obtain ⟨u, hu, ru⟩ := rv.get hx
    obtain ⟨u2, hu2, ru2⟩ := rv2.get hy
    have hzl : z < s.heap.objs.size := Heap.lt_size hz
    refine nextS_item D src_list src_tup hz hTI hTO ⟨h1, p.isList⟩ ⟨h2, p2⟩ (x := u) (y := u2) (by simpa using hu) (by simpa using hu2) fun h' z' TO' h1' h2' hT hsz hk => ?_
    refine ⟨_, rfl, wpAny_letOwnedTupleGo_zip (s := { s with heap := h' }) z' fun h'' z'' sb => ?_⟩
    have hT2 : h''.get? s.heap.objs.size = some { cls := .type "tuple", data := .seq #[u, u2] } := (sb.2 _ (Nat.ne_of_gt hzl)).trans hT
    have new : ObjOk X.prog X.w (upd H s.heap.objs.size (.tup [x, y])) h'' s.heap.objs.size (.tup [x, y]) :=
      ⟨by show 2 ≤ sizeLine; decide, [u, u2], .cons ru (.cons ru2 .nil), ⟨_, hT2, rfl, _, rfl⟩⟩
    have I1 : Inv X pins σ (upd H s.heap.objs.size (.tup [x, y])) { s with heap := h'' } :=
      I.turnedNew (t' := s.toks) (ch := [z, TI, TO, i1, i2]) (fun c o hb q => (sb.2 c (fun q' => hb (by simp [q']))).trans (hk c o (fun q' => hb (by simp [q'])) (fun q' => hb (by simp [q'])) (fun q' => hb (by simp [q'])) (fun q' => hb (by simp [q'])) q)) hf (Nat.le_refl _) new
    refine ⟨.ref s.heap.objs.size, _, I1, rfl, ⟨_, x, y, rfl, I.hok.fresh (Nat.le_refl _), rfl, fun l hl => by rw [I.list_inj hl hqx]; exact hx, fun l hl => by rw [I.tuple_inj hl hqy]; exact hy⟩, ⟨z'', ?_, ⟨u, u2, ?_⟩, ?_, ?_⟩, fun c hcm => ?_⟩
    · exact (sb.2 _ D.TIz).trans (hk _ _ D.TIz D.TITO D.TIi1 D.TIi2 hTI)
    · exact (sb.2 _ D.TOz).trans TO'
    · exact h1'.1.at fun o q => (sb.2 _ D.i1z).trans q
    · exact h2'.1.at fun o q => (sb.2 _ D.i2z).trans q
    · have hlt : c < s.heap.objs.size := by
        have e' : c = z ∨ c = TI ∨ c = TO ∨ c = i1 ∨ c = i2 := by simpa using hcm
        rcases e' with q | q | q | q | q
        · rw [q]; exact hzl
        · rw [q]; exact Heap.lt_size hTI
        · rw [q]; exact Heap.lt_size hTO
        · rw [q]; obtain ⟨_, e1, _⟩ := h1; exact Heap.lt_size e1
        · rw [q]; obtain ⟨_, e2, _⟩ := h2; exact Heap.lt_size e2
      rw [upd_ne (Nat.ne_of_lt hlt)]
      exact (hf c hcm).1
  done := by
    intro X hP hw hK hc i pins s σ H E I hf st hg
    subst hP hw hK
    obtain ⟨hz, hTI, ⟨x0, y0, hTO⟩, h1, h2⟩ := st
    obtain ⟨xs, ys, hqx, hqy, hend⟩ := hg
    obtain ⟨its, rv, p, _⟩ := I.list hqx
    obtain ⟨its2, rv2, p2, _⟩ := I.tuple hqy
    have l1 := rv.length
    have l2 := rv2.length
    have he : its.toArray[i]? = none ∨ its2.toArray[i]? = none := by
      rcases hend with q | q
      · exact .inl (by simp; omega)
      · exact .inr (by simp; omega)
    exact nextS_end (I.ok.hd hc) D src_list src_tup hz hTI hTO ⟨h1, p.isList⟩ ⟨h2, p2⟩ he fun h' hk => ⟨rfl, I.turnedL (t' := s.toks) (ch := [z, TI, TO, i1, i2]) (fun c o hb q =>
      hk c o (fun q' => hb (by simp [q'])) (fun q' => hb (by simp [q'])) (fun q' => hb (by simp [q'])) (fun q' => hb (by simp [q'])) q) hf⟩
  self := fun A i s Q E st h => wpAny_pyIter_zip st.1 h
def iZipB (K : PySem.W.Frag) (ta : TA) : TI := fun σ H R => ta σ H fun vs H1 => ∃ a b xs ys, vs = [.ref a, .ref b] ∧ ((SqL K H1 a xs ∧ SqL K H1 b ys ∧ R (Itz K a b) H1) ∨ (SqT K H1 a xs ∧ SqT K H1 b ys ∧ R (ItzT K a b) H1) ∨ (SqL K H1 a xs ∧ SqT K H1 b ys ∧ R (ItzM K a b) H1))
theorem pi_zipB {X : Cx} {e e2 : Expr} {ta : TA} {p pos tpos : Pos} {elts : List Expr} {kk : Nat} (hg : Gl X "zip") (hm : X.mg "zip" = none) (ha : PA X [e, e2] ta)
    (hs : starEach [e, e2] X.env = (false, eval e X.env) :: starEach [e2] X.env := by rfl) (hpl : (backTo pos (starEach [e2] X.env)).any (·.1) = false := by rfl) :
    PI X (.Tuple elts kk tpos) (.Call (.Name "zip" p) [e, e2] [] pos) (iZipB X.K ta) := by
  refine ⟨fun pins s σ H R I h => ?_⟩
  refine Call_ (ld_blt I hg hm PyProof.Rows.boot_zip (PyProof.Rows.callWith_type1 (thn (ha.run pos pins s σ H _ I h) fun us s1 ⟨vs, H1, I1, r1, q1⟩ => ?_) hs hpl))
  obtain ⟨a, b, xs, ys, ex, q1⟩ := q1
  subst ex
  cases r1 with
  | cons r rr =>
    cases rr with
    | cons r' rr =>
      cases rr
      cases r
      cases r'
      have fresh5 : ∀ c, c ∈ [s1.heap.objs.size + 4, s1.heap.objs.size + 2, s1.heap.objs.size + 3, s1.heap.objs.size, s1.heap.objs.size + 1] → FpOk X pins H1 c := fun c hcm => by
        have e' : c = s1.heap.objs.size + 4 ∨ c = s1.heap.objs.size + 2 ∨ c = s1.heap.objs.size + 3 ∨ c = s1.heap.objs.size ∨ c = s1.heap.objs.size + 1 := by simpa using hcm
        have hle : s1.heap.objs.size ≤ c := by omega
        exact I1.fpOk hle (I1.hok.fresh hle)
      rcases q1 with ⟨hqx, hqy, q⟩ | ⟨hqx, hqy, q⟩ | ⟨hqx, hqy, q⟩
      · obtain ⟨its, rv, p1, _⟩ := I1.list hqx
        obtain ⟨its2, rv2, p2, _⟩ := I1.list hqy
        refine call_zip_2 p1.isList p2.isList fun h' hz hTI hTO h1 h2 hsz hk => wpAny_pyIter_zip hz ?_
        have I2 : Inv X pins σ H1 { s1 with heap := h' } := I1.kept (t' := s1.toks) hk
        exact ⟨_, _, _, _, H1, rfl, I2, turn_zip (PySem.W.ktu_apart s1.heap.objs.size a b p1.lt p2.lt), ⟨hz, hTI, ⟨_, _, hTO⟩, h1, h2⟩, fresh5, q⟩
      · obtain ⟨its, rv, p1, _⟩ := I1.tuple hqx
        obtain ⟨its2, rv2, p2, _⟩ := I1.tuple hqy
        obtain ⟨o1, ho1, _⟩ := id p1
        obtain ⟨o2, ho2, _⟩ := id p2
        refine call_zipT (show s1.heap.IsTuple a its.toArray from p1) (show s1.heap.IsTuple b its2.toArray from p2) fun h' hz hTI hTO h1 h2 hsz hk => wpAny_pyIter_zip hz ?_
        have I2 : Inv X pins σ H1 { s1 with heap := h' } := I1.kept (t' := s1.toks) hk
        exact ⟨_, _, _, _, H1, rfl, I2, turn_zipT (PySem.W.ktu_apart s1.heap.objs.size a b (Heap.lt_size ho1) (Heap.lt_size ho2)), ⟨hz, hTI, ⟨_, _, hTO⟩, h1, h2⟩, fresh5, q⟩
      · obtain ⟨its, rv, p1, _⟩ := I1.list hqx
        obtain ⟨its2, rv2, p2, _⟩ := I1.tuple hqy
        obtain ⟨o2, ho2, _⟩ := id p2
        refine call_zip_lt p1.isList (show s1.heap.IsTuple b its2.toArray from p2) fun h' hz hTI hTO h1 h2 hsz hk => wpAny_pyIter_zip hz ?_
        have I2 : Inv X pins σ H1 { s1 with heap := h' } := I1.kept (t' := s1.toks) hk
        exact ⟨_, _, _, _, H1, rfl, I2, turn_zipM (PySem.W.ktu_apart s1.heap.objs.size a b p1.lt (Heap.lt_size ho2)), ⟨hz, hTI, ⟨_, _, hTO⟩, h1, h2⟩, fresh5, q⟩
end Mi
namespace Mi
open PySem PySem.Spec PyProof.Rows RZ L2
section
variable {prog : Program} {w : World} {A : Around} {E : Value → Shared → Prop} {s : Shared} {P : Heap → Nat → Prop}
theorem enumS_item {e it l : Addr} {i : Nat} {items : Array Value} {x old : Value} {Q : Value → Shared → Prop} (S : Src prog w it l items P) (hl : l ≠ it) (hle : l ≠ e)
    (he : IsEnum s.heap e it i old) (hp : P s.heap i) (hx : items[i]? = some x) (hne : e ≠ it)
    (hQ : ∀ g, IsEnumOut g e it ((i : Int) + 1) x s.heap.objs.size → P g (i + 1) → g.get? s.heap.objs.size = some { cls := .type "tuple", data := .seq #[.int i s.toks, x] } → g.objs.size = s.heap.objs.size + 1 →
      (∀ b o, b ≠ e → b ≠ it → s.heap.get? b = some o → g.get? b = some o) → Q (.ref s.heap.objs.size) { s with heap := g, toks := s.toks + 1 }) :
    wpAny (model prog w) A (Builtin.«enumerate.__next__» ⟨[.ref e], []⟩) (fun fin s' => ∃ v, fin = .done (.ret v) ∧ Q v s') E s := by
  obtain ⟨h0, gs, dr, tk, os⟩ := s
  have ne' : it ≠ e := Ne.symm hne
  show wpAny _ _ (field (.ref e) 2 >>= _) _ _ _
  refine wpAny_bind (wpAny_field he rfl (x := .ref it) rfl ?_)
  refine wpAny_bind (S.item hl hp hx fun g1 p1 b1 => ?_)
  have b1 : Heap.SameBut it h0 g1 := b1
  have e1 : IsEnum g1 e it i old := (b1.2 e hne).trans he
  show wpAny _ _ (field (.ref e) 3 >>= _) _ _ ⟨g1, gs, dr, tk, os⟩
  refine wpAny_bind (wpAny_field e1 rfl (x := rawInt i) rfl ?_)
  show wpAny _ _ (field (.ref e) 4 >>= _) _ _ ⟨g1, gs, dr, tk, os⟩
  refine wpAny_bind (wpAny_field e1 rfl (x := .none) rfl ?_)
  show wpAny _ _ (mkInt i >>= _) _ _ ⟨g1, gs, dr, tk, os⟩
  refine wpAny_bind (wpAny_mkInt ?_)
  show wpAny _ _ (setField (.ref e) 3 (rawInt ((i : Int) + 1)) >>= _) _ _ ⟨g1, gs, dr, tk + 1, os⟩
  refine wpAny_bind (wpAny_setField_rec e1 (by simp) fun g2 e2 b2 => ?_)
  have b2 : Heap.SameBut e g1 g2 := b2
  have e2 : IsEnum g2 e it ((i : Int) + 1) old := e2
  show wpAny _ _ (setField (.ref e) 4 .none >>= _) _ _ ⟨g2, gs, dr, tk + 1, os⟩
  refine wpAny_bind (wpAny_setField_rec e2 (by simp) fun g3 e3 b3 => ?_)
  have b3 : Heap.SameBut e g2 g3 := b3
  have e3 : IsEnum g3 e it ((i : Int) + 1) old := e3
  show wpAny _ _ (newTuple [.int i tk, x] >>= _) _ _ ⟨g3, gs, dr, tk + 1, os⟩
  refine wpAny_bind (wpAny_newTuple ?_)
  have z3 : g3.objs.size = h0.objs.size := by rw [b3.1, b2.1, b1.1]
  have lt : e < h0.objs.size := Heap.lt_size he
  have p3 : P g3 (i + 1) := S.ext (S.ext p1 b2.extBut ne' hle) b3.extBut ne' hle
  generalize hg4 : g3.push { cls := .type "tuple", data := .seq #[.int i tk, x] } = g4
  have e4 : IsEnum g4 e it ((i : Int) + 1) old := by rw [← hg4]; exact Heap.get?_push_of_some _ e3
  have t4 : g4.get? h0.objs.size = some { cls := .type "tuple", data := .seq #[.int i tk, x] } := by rw [← hg4, ← z3]; exact Heap.get?_push_size _ rfl
  have z4 : g4.objs.size = h0.objs.size + 1 := by rw [← hg4, Heap.size_push, z3]
  have p4 : P g4 (i + 1) := S.at_ p3 (fun o q => by rw [← hg4]; exact Heap.get?_push_of_some _ q) fun o q => by rw [← hg4]; exact Heap.get?_push_of_some _ q
  have k4 : ∀ b o, b ≠ e → b ≠ it → h0.get? b = some o → g4.get? b = some o := fun b o q1 q2 q => by
    rw [← hg4]; exact Heap.get?_push_of_some _ (b3.extBut b o q1 (b2.extBut b o q1 (b1.extBut b o q2 q)))
  rw [z3]
  show wpAny _ _ (Builtin.SmallTypes.ownedTupleIsFree (.ref e) >>= _) _ _ ⟨g4, gs, dr, tk + 1, os⟩
  clear hg4 e3 b3 e2 b2 e1 b1 p1 p3 z3
  refine wpAny_bind ?_
  unfold Builtin.SmallTypes.ownedTupleIsFree
  refine wpAny_bind (wpAny_field e4 rfl (x := .none) rfl (wpAny_pure ?_))
  simp only [if_true]
  refine wpAny_bind (wpAny_rule ?_)
  refine wpAny_bind (wpAny_field e4 rfl (x := old) rfl ?_)
  refine wpAny_bind (wpAny_setField_rec e4 (by simp) fun g5 e5 b5 => ?_)
  have b5 : Heap.SameBut e g4 g5 := b5
  have e5 : IsEnum g5 e it ((i : Int) + 1) x := e5
  show wpAny _ _ (Builtin.SmallTypes.ownedTupleHandOut (.ref e) (.ref h0.objs.size) >>= _) _ _ ⟨g5, gs, dr, tk + 1, os⟩
  refine wpAny_bind ?_
  unfold Builtin.SmallTypes.ownedTupleHandOut
  refine wpAny_bind (wpAny_setField_rec e5 (by simp) fun g6 e6 b6 => ?_)
  have b6 : Heap.SameBut e g5 g6 := b6
  have e6 : IsEnumOut g6 e it ((i : Int) + 1) x h0.objs.size := e6
  refine wpAny_setField_rec e6 (by simp) fun g7 e7 b7 => ?_
  have b7 : Heap.SameBut e g6 g7 := b7
  have e7 : IsEnumOut g7 e it ((i : Int) + 1) x h0.objs.size := e7
  have ne2 : h0.objs.size ≠ e := Nat.ne_of_gt lt
  refine wpAny_bind (wpAny_letGo (wpAny_pure ⟨_, rfl, hQ g7 e7 ?_ ?_ ?_ ?_⟩))
  · exact S.ext (S.ext (S.ext p4 b5.extBut ne' hle) b6.extBut ne' hle) b7.extBut ne' hle
  · exact b7.extBut _ _ ne2 (b6.extBut _ _ ne2 (b5.extBut _ _ ne2 t4))
  · rw [b7.1, b6.1, b5.1, z4]
  · exact fun b o q1 q2 q => b7.extBut b o q1 (b6.extBut b o q1 (b5.extBut b o q1 (k4 b o q1 q2 q)))
theorem nextE_item {e it l : Addr} {i : Nat} {items : Array Value} {x old : Value} {Q : Option Value → Shared → Prop} (S : Src prog w it l items P) (hl : l ≠ it) (hle : l ≠ e)
    (he : IsEnum s.heap e it i old) (hp : P s.heap i) (hx : items[i]? = some x) (hne : e ≠ it)
    (hQ : ∀ g, IsEnumOut g e it ((i : Int) + 1) x s.heap.objs.size → P g (i + 1) → g.get? s.heap.objs.size = some { cls := .type "tuple", data := .seq #[.int i s.toks, x] } → g.objs.size = s.heap.objs.size + 1 →
      (∀ b o, b ≠ e → b ≠ it → s.heap.get? b = some o → g.get? b = some o) → Q (some (.ref s.heap.objs.size)) { s with heap := g, toks := s.toks + 1 }) : wpAny (model prog w) A (pyNext (.ref e)) Q E s := by
  have ty : s.TypeIs (.ref e) "enumerate" := ⟨_, he, rfl⟩
  unfold pyNext
  exact wpAny_bind (wpAny_attempt (wpAny_callSpecial?_slot (name := Str.ofString "__next__") ty F.slot_enumerate_next (wpAny_call_entry F.slot_enumerate_next ty F.entry_enumerate_next
    (enumS_item S hl hle he hp hx hne fun g a b c d k => wpAny_pure (hQ g a b c d k)) (F.args_enumerate_next_1 _))))
theorem nextE_end {e it l : Addr} {i : Nat} {items : Array Value} {old : Value} {Q : Option Value → Shared → Prop} (hh : A.handled = none) (S : Src prog w it l items P)
    (he : IsEnum s.heap e it i old) (hp : P s.heap i) (hx : items[i]? = none) (hQ : ∀ g, Heap.ExtBut it s.heap g → Q none { s with heap := g }) : wpAny (model prog w) A (pyNext (.ref e)) Q E s := by
  have ty : s.TypeIs (.ref e) "enumerate" := ⟨_, he, rfl⟩
  unfold pyNext
  refine wpAny_bind (wpAny_attempt (wpAny_callSpecial?_slot (name := Str.ofString "__next__") ty F.slot_enumerate_next (wpAny_call_entry F.slot_enumerate_next ty F.entry_enumerate_next ?_ (F.args_enumerate_next_1 _))))
  show wpAny _ _ (field (.ref e) 2 >>= _) _ _ _
  refine wpAny_bind (wpAny_field he rfl (x := .ref it) rfl ?_)
  refine wpAny_bind (S.stop hh hp hx fun g x q1 q2 => ?_)
  obtain ⟨o, ho, hc⟩ := q2
  refine wpAny_bind (wpAny_isInstance (T := "StopIteration") (b := true) ⟨o, ho, hc⟩ isSubtype_stop ?_)
  exact wpAny_pure (hQ _ q1)
theorem newE_tup (l : Addr) (items : Array Value) (n : Nat) (dct : Option Addr) (sl : Array (Option Value)) :
    Meets (Builtin.«enumerate.__new__» ⟨[.type "enumerate", .ref l], []⟩) (fun _ R s => s.heap.get? l = some { cls := .type "tuple", dict := dct, data := .seq items n, slots := sl } ∧
      R (.ok (.ret (.ref (s.heap.push { cls := .type "tuple_iterator", data := .fields #[.ref l, .int 0 0] }).objs.size)))
        { s with heap := (s.heap.push { cls := .type "tuple_iterator", data := .fields #[.ref l, .int 0 0] }).push { cls := .type "enumerate", data := .fields #[.none, .bool false, .ref s.heap.objs.size, rawInt 0, .none, .none] } }) :=
  .of_wp fun prog w A R s h => by
    obtain ⟨hp, g, d, tk, os⟩ := s
    obtain ⟨ht, h⟩ := h
    have su := sub_enumerate
    have hT : Heap.IsTuple (Shared.heap ⟨hp, g, d, tk, os⟩) l items := ⟨_, ht, rfl, n, rfl⟩
    wp_walk using AutoSeq1.wpAny_loadPart' ht
    refine wpAny_stack_any fun st => wpAny_pure ?_
    split
    · rename_i c _ _ _ _ _
      cases (c == Value.type "enumerate") <;>
        (wp_walk using AutoSeq1.wpAny_loadPart' ht, wpAny_pyIter_tuple hT
         exact ⟨_, rfl, h⟩)
    · wp_walk using AutoSeq1.wpAny_loadPart' ht, wpAny_pyIter_tuple hT
      exact ⟨_, rfl, h⟩
theorem callE_tup {l : Addr} {items : Array Value} {Q : Value → Shared → Prop} (hT : s.heap.IsTuple l items)
    (h : ∀ g, IsEnum g (s.heap.objs.size + 1) s.heap.objs.size 0 .none → g.IsTupleIter s.heap.objs.size l 0 → g.objs.size = s.heap.objs.size + 2 → (∀ b o, s.heap.get? b = some o → g.get? b = some o) → Q (.ref (s.heap.objs.size + 1)) { s with heap := g }) :
    wpAny (model prog w) A (call (.type "enumerate") [.ref l]) Q E s := by
  obtain ⟨⟨c, dct, dt, sl⟩, ht, hc, n, hd⟩ := hT
  dsimp only at hc hd
  subst hc hd
  refine callType_new F.called_enumerate (by decide) (F.typeCall_enumerate_1 _) (F.newCall_enumerate_1 _) (fun obj => F.args_object_init_2 obj _) F.entry_enumerate_new (newE_tup l items n dct sl) ⟨ht, ?_⟩
  generalize hI : ({ cls := .type "tuple_iterator", data := .fields #[.ref l, .int 0 0] } : Obj) = I
  have z1 : (s.heap.push I).objs.size = s.heap.objs.size + 1 := Heap.size_push ..
  generalize hJ : ({ cls := .type "enumerate", data := .fields #[.none, .bool false, .ref s.heap.objs.size, rawInt 0, .none, .none] } : Obj) = J
  have j1 : ((s.heap.push I).push J).get? (s.heap.objs.size + 1) = some J := by rw [← z1]; exact Heap.get?_push_size _ (by rw [← hJ] <;> rfl)
  have i1 : ((s.heap.push I).push J).get? s.heap.objs.size = some I := Heap.get?_push_of_some _ (Heap.get?_push_size _ (by rw [← hI] <;> rfl))
  show _ ∧ _
  rw [z1]
  subst hI hJ
  exact ⟨⟨_, j1, rfl⟩, h _ j1 ⟨_, i1, rfl, rfl⟩ (by rw [Heap.size_push, z1]) fun b o q => Heap.get?_push_of_some _ (Heap.get?_push_of_some _ q)⟩
end
/-- the tuple at a, each item in a new pair -/
def IteT (K : PySem.W.Frag) (a : Addr) : It :=
  ⟨fun i H => ∃ (xs : List V) (x : V), SqT K H a xs ∧ xs[i]? = some x, fun i H v H' => ∃ T x, v = .ref T ∧ H T = none ∧ H' = upd H T (.tup [.int (i : Nat), x]) ∧ ∀ xs, SqT K H a xs → xs[i]? = some x, fun i H => ∃ xs : List V, SqT K H a xs ∧ xs.length ≤ i⟩
theorem turnE_tup {P : Program} {w : World} {K : PySem.W.Frag} {elts : List Expr} {kk : Nat} {tpos : Pos} (a e it : Addr) :
    Turn P w K (.Tuple elts kk tpos) (IteT K a) [e, it] e (fun i h => (∃ old, IsEnum h e it ((i : Nat) : Int) old) ∧ h.IsTupleIter it a i ∧ e ≠ it ∧ a ≠ it ∧ a ≠ e) where
  mem := by simp
  obj := fun i h st b hb => by
    obtain ⟨⟨old, he⟩, ⟨o, ho, hc, hd⟩, _⟩ := st
    rcases List.mem_cons.mp hb with z | z
    · subst z; exact ⟨_, he, fun v q => nomatch q⟩
    · rw [List.mem_singleton] at z
      subst z; exact ⟨o, ho, fun v q => by rw [hd] at q; cases q⟩
  keep := fun i h h' st k => let ⟨⟨old, he⟩, hi, hne⟩ := st; ⟨⟨old, k e (by simp) _ he⟩, hi.at fun o q => k it (by simp) o q, hne⟩
  item := by
    intro X hP hw hK hc i pl t σ H E I hf st hg
    subst hP hw hK
    obtain ⟨⟨old, he⟩, hit, hne, ha1, ha2⟩ := st
    obtain ⟨xs, x, hq, hx⟩ := hg
    obtain ⟨its, rv, p, hz⟩ := I.tuple hq
    obtain ⟨u, hu, ru⟩ := rv.get hx
    have lte : e < t.heap.objs.size := Heap.lt_size he
    have lti : it < t.heap.objs.size := by obtain ⟨_, q, _⟩ := hit; exact Heap.lt_size q
    refine nextE_item (src_tup (prog := X.prog) (w := X.w)) ha1 ha2 he ⟨hit, p⟩ (x := u) (by simpa using hu) hne fun g go gp gt gz gk => ?_
    refine ⟨_, rfl, wpAny_letOwnedTupleGo_enum (s := { t with heap := g, toks := t.toks + 1 }) go fun g2 he2 sb => ?_⟩
    have t2 : g2.get? t.heap.objs.size = some { cls := .type "tuple", data := .seq #[.int i t.toks, u] } := (sb.2 _ (Nat.ne_of_gt lte)).trans gt
    have new : ObjOk X.prog X.w (upd H t.heap.objs.size (.tup [.int (i : Nat), x])) g2 t.heap.objs.size (.tup [.int (i : Nat), x]) :=
      ⟨by show 2 ≤ sizeLine; decide, [.int i t.toks, u], .cons ⟨_, rfl⟩ (.cons ru .nil), ⟨_, t2, rfl, _, rfl⟩⟩
    have I1 : L2.Inv X pl σ (upd H t.heap.objs.size (.tup [.int (i : Nat), x])) { t with heap := g2, toks := t.toks + 1 } :=
      I.turnedNew (ch := [e, it]) (fun b ob hb q => (sb.2 b (fun z => hb (by simp [z]))).trans (gk b ob (fun z => hb (by simp [z])) (fun z => hb (by simp [z])) q)) hf (Nat.le_refl _) new
    refine ⟨.ref t.heap.objs.size, _, I1, rfl, ⟨_, x, rfl, I.hok.fresh (Nat.le_refl _), rfl, fun ys hy => ?_⟩, ⟨⟨u, ?_⟩, gp.1.at fun o q => (sb.2 it (Ne.symm hne)).trans q, hne, ha1, ha2⟩, fun b hb => ?_⟩
    · rw [I.tuple_inj hy hq]; exact hx
    · have e1 : ((i + 1 : Nat) : Int) = (i : Int) + 1 := by omega
      rw [e1]; exact he2
    · have lb : b < t.heap.objs.size := by
        rcases List.mem_cons.mp hb with z | z
        · rw [z]; exact lte
        · rw [List.mem_singleton] at z; rw [z]; exact lti
      rw [upd_ne (Nat.ne_of_lt lb)]
      exact (hf b hb).1
  done := by
    intro X hP hw hK hc i pl t σ H E I hf st hg
    subst hP hw hK
    obtain ⟨⟨old, he⟩, hit, hne, ha1, ha2⟩ := st
    obtain ⟨xs, hq, hx⟩ := hg
    obtain ⟨its, rv, p, hz⟩ := I.tuple hq
    obtain ⟨f0, f1, f2, f3, f4, f5⟩ := hf it (by simp)
    have hl := rv.length
    exact nextE_end (I.ok.hd hc) (src_tup (prog := X.prog) (w := X.w)) he ⟨hit, p⟩ (by simp; omega) fun g eb => ⟨rfl, I.turned (t' := t.toks) (fun b o hb q => eb b o hb q) f0 f1 f3 f4 f5⟩
  self := fun A i s Q E st h => let ⟨⟨_, he⟩, _⟩ := st; wpAny_pyIter_enum he h
/-- enumerate(e), e a list or a tuple -/
theorem pi_enumB {X : Cx} {e : Expr} {ta : TA} {p pos tpos : Pos} {elts : List Expr} {kk : Nat} (hg : Gl X "enumerate") (hm : X.mg "enumerate" = none) (ha : PA X [e] ta) (hs : starEach [e] X.env = [(false, eval e X.env)] := by rfl) :
    PI X (.Tuple elts kk tpos) (.Call (.Name "enumerate" p) [e] [] pos) (fun σ H R => ta σ H fun vs H1 => ∃ a xs, vs = [.ref a] ∧ ((SqL X.K H1 a xs ∧ R (Ite X.K a) H1) ∨ (SqT X.K H1 a xs ∧ R (IteT X.K a) H1))) := by
  refine ⟨fun pl t σ H R I h => ?_⟩
  refine Call_ (ld_blt I hg hm boot_enumerate (PyProof.Rows.callWith_type1 (thn (ha.run pos pl t σ H _ I h) fun us s1 ⟨vs, H1, I1, r1, q1⟩ => ?_) hs rfl))
  obtain ⟨a, xs, rfl, q⟩ := q1
  cases r1 with
  | cons r rr =>
    cases rr
    cases r
    have fp : ∀ b ∈ [s1.heap.objs.size + 1, s1.heap.objs.size], FpOk X pl H1 b := fun b hb => by
      have le : s1.heap.objs.size ≤ b := by
        rcases List.mem_cons.mp hb with z | z
        · rw [z]; exact Nat.le_add_right _ _
        · rw [List.mem_singleton] at z; rw [z]; exact Nat.le_refl _
      exact I1.fpOk le (I1.hok.fresh le)
    rcases q with ⟨hq, q⟩ | ⟨hq, q⟩
    · obtain ⟨its, rv, p', hz⟩ := I1.list hq
      refine call_enumerate_list p'.isList fun g he hit hsz hk => wpAny_pyIter_enum he ?_
      exact ⟨s1.heap.objs.size + 1, [s1.heap.objs.size + 1, s1.heap.objs.size], _, _, H1, rfl, I1.kept (t' := s1.toks) hk, turn_enum a (s1.heap.objs.size + 1) s1.heap.objs.size, ⟨⟨.none, he⟩, hit, Nat.succ_ne_self _⟩, fp, q⟩
    · obtain ⟨its, rv, p', hz⟩ := I1.tuple hq
      have lta : a < s1.heap.objs.size := by obtain ⟨_, q, _⟩ := p'; exact Heap.lt_size q
      refine callE_tup p' fun g he hit hsz hk => wpAny_pyIter_enum he ?_
      exact ⟨s1.heap.objs.size + 1, [s1.heap.objs.size + 1, s1.heap.objs.size], _, _, H1, rfl, I1.kept (t' := s1.toks) hk, turnE_tup a (s1.heap.objs.size + 1) s1.heap.objs.size, ⟨⟨.none, he⟩, hit, Nat.succ_ne_self _, Nat.ne_of_lt lta, Nat.ne_of_lt (Nat.lt_succ_of_lt lta)⟩, fp, q⟩
end Mi
namespace Mi
open PySem PySem.Spec PyProof.Rows L2
def divmodW : List PD → Option PD
  | [.int i, .int j] => if 0 < j ∧ j.natAbs.log2 < 9000 then some (.tup [.int (i / j), .int (i % j)]) else none
  | _ => none
def eChain3 (f f' f'' : PD → PD → Option PD) (a b c d : EX) : EX := fun ρ M => bnd (a ρ M) fun x M1 => bnd (b ρ M1) fun y M2 => bnd (op2 f x y M2) fun z M3 => bnd (asB M3 z) fun k M4 =>
  if k = true then bnd (c ρ M4) fun w M5 => bnd (op2 f' y w M5) fun z2 M6 => bnd (asB M6 z2) fun k2 M7 => if k2 = true then bnd (d ρ M7) fun v M8 => op2 f'' w v M8 else some (.ok (.d (.bl false)) M7) else some (.ok (.d (.bl false)) M4)
def permL {α : Type} (idx : List Nat) (xs : List α) : List α := idx.filterMap fun i => xs[i]?
section
variable {K : PySem.W.Frag} {T : Tb} {F : Hp} {α : List Addr}
theorem RepVs.get : ∀ {vs : List V} {xs : List VL} {i : Nat} {v : V}, RepVs K T F α vs xs → vs[i]? = some v → ∃ x, xs[i]? = some x ∧ RepV K T F α v x
  | _, _, _, _, .nil, e => by simp at e
  | _, _, 0, _, .cons r t, e => by
    have e := Option.some.inj e
    subst e
    exact ⟨_, rfl, r⟩
  | _, _, i + 1, _, .cons r t, e => by
    obtain ⟨x, h1, h2⟩ := RepVs.get (i := i) t (by simpa using e)
    exact ⟨x, by simpa using h1, h2⟩
end
/-- positional values, then the keywords' values -/
def eAppK (n m : Nat) (idx : List Nat) (f : List VL → MH → Option (Rs VL)) (gs gk : AX) : EX := fun ρ M => bnd (gs ρ M) fun xs M1 => bnd (gk ρ M1) fun zs M2 => if xs.length = n ∧ zs.length = m then f (permL idx (xs ++ zs)) M2 else none
def enumL (ds : List PD) : List PD := (List.range ds.length).zipWith (fun i d => .tup [.int (i : Nat), d]) ds
def listOf : PD → Option (List PD)
  | .lst ds => some ds
  | .scr ds => some ds
  | _ => none
/-- what enumerate walks -/
def enOf : PD → Option (List PD)
  | .lst ds => some ds
  | .scr ds => some ds
  | .tup ds => some ds
  | _ => none
def iEnumD (g : EX) : IX := fun ρ M => bnd (g ρ M) fun v M1 => match v with
  | .d x => (match enOf x with
    | some ds => some (.ok (enumL ds) M1)
    | none => none)
  | .r _ => none
theorem enumL_get {ds : List PD} {i : Nat} : (enumL ds)[i]? = (ds[i]?).map fun d => .tup [.int (i : Nat), d] := by
  unfold enumL
  rw [List.getElem?_zipWith]
  by_cases h : i < ds.length
  · rw [List.getElem?_eq_getElem (by simpa using h), List.getElem?_eq_getElem h]
    simp
  · rw [List.getElem?_eq_none (by simpa using h), List.getElem?_eq_none (by simpa using h)]
    rfl
theorem enumL_len (ds : List PD) : (enumL ds).length = ds.length := by simp [enumL]
section
variable {X : Cx} {T : Tb} {W : WX} {g h : EX} {e e2 : Expr} {p pos tpos : Pos} {elts : List Expr} {kk : Nat}
theorem list_sq {K : PySem.W.Frag} {F H : Hp} {α : List Addr} {M : MH} (R : HR K T H M F α) {v : V} {x : PD} {ds : List PD} (r : Rep K T F v x) (h : listOf x = some ds) : ∃ a xs, v = .ref a ∧ SqL K F a xs ∧ SqL K H a xs ∧ Reps K T F xs ds := by
  cases x with
  | lst es =>
    have q : es = ds := Option.some.inj h
    subst q
    cases r with
    | lst h1 h2 => exact ⟨_, _, rfl, SqL.of h1, SqL.of (lst_H R h1), h2⟩
  | scr es =>
    have q : es = ds := Option.some.inj h
    subst q
    cases r with
    | scr h1 h2 => exact ⟨_, _, rfl, h1, sqL_H R h1, h2⟩
  | _ => cases h
theorem jok_enum {K : PySem.W.Frag} {F : Hp} {a : Addr} {xs : List V} {ds : List PD} (hF : SqL K F a xs) (r : Reps K T F xs ds) : Jok K T (Ite K a) F (enumL ds) := fun H' M' F' α' sm R i => by
  have hq : SqL K H' a xs := sqL_H R (sqL_mono sm hF)
  rw [enumL_len]
  refine ⟨fun hi => ?_, fun hi => ⟨xs, hq, by rw [r.length]; exact hi⟩⟩
  obtain ⟨v, hv, rv⟩ := r.get (i := i) (d := ds[i]) (by simp [hi])
  refine ⟨⟨xs, v, hq, hv⟩, fun x H2 ⟨t, y, e, hT, e2, hy⟩ => ?_⟩
  subst e e2
  have hx := hy xs hq
  rw [hv] at hx
  cases hx
  exact ⟨_, R.new hT, step_new R hT, .tup [.int (i : Nat), ds[i]], by rw [enumL_get]; simp [hi], .tup (SqT.of upd_same) (.cons (.int _) (.cons ((rv.mono sm).mono (same_new (R.freeF hT))) .nil))⟩
theorem jok_enumT {K : PySem.W.Frag} {F : Hp} {a : Addr} {xs : List V} {ds : List PD} (hF : SqT K F a xs) (r : Reps K T F xs ds) : Jok K T (IteT K a) F (enumL ds) := fun H' M' F' α' sm R i => by
  have hq : SqT K H' a xs := sqT_H R (sqT_mono sm hF)
  rw [enumL_len]
  refine ⟨fun hi => ?_, fun hi => ⟨xs, hq, by rw [r.length]; exact hi⟩⟩
  obtain ⟨v, hv, rv⟩ := r.get (i := i) (d := ds[i]) (by simp [hi])
  refine ⟨⟨xs, v, hq, hv⟩, fun x H2 ⟨t, y, e, hT, e2, hy⟩ => ?_⟩
  subst e e2
  have hx := hy xs hq
  rw [hv] at hx
  cases hx
  exact ⟨_, R.new hT, step_new R hT, .tup [.int (i : Nat), ds[i]], by rw [enumL_get]; simp [hi], .tup (SqT.of upd_same) (.cons (.int _) (.cons ((rv.mono sm).mono (same_new (R.freeF hT))) .nil))⟩
theorem di_enum (hm : X.mg "enumerate" = none) (ha : PE X e (tE X.K T W g)) (hg : Gl X "enumerate" := by rfl) (hs : starEach [e] X.env = [(false, eval e X.env)] := by rfl) : PI X (.Tuple elts kk tpos) (.Call (.Name "enumerate" p) [e] [] pos) (iD X.K T W (iEnumD g)) := by
  refine piImp (pi_enumB hg hm (da_one hs ha) hs) fun σ H Rr hh => ?_
  obtain ⟨ρ, M, F, α, L, R, hh⟩ := rd_to hh
  refine rd_of L R (at_bind hh fun x M1 v H1 F1 α1 s1 R1 r1 h1 => ?_)
  obtain ⟨q, e, po⟩ := h1
  cases x with
  | r _ => cases e
  | d x =>
    dsimp only at e
    cases hx : enOf x with
    | none => rw [hx] at e; cases e
    | some ds =>
      rw [hx] at e
      cases x with
      | tup es =>
        obtain rfl : es = ds := Option.some.inj hx
        cases r1 with
        | tup h1 h2 => exact ⟨_, _, rfl, .inr ⟨sqT_H R1 h1, at_ok (W := W) (σ := σ) R1 ⟨q, e, po⟩ (jok_enumT h1 h2)⟩⟩
      | lst es =>
        obtain ⟨a, xs, rfl, f1, f2, f3⟩ := list_sq R1 r1 (show listOf (.lst es) = some ds from hx)
        exact ⟨a, xs, rfl, .inl ⟨f2, at_ok (W := W) (σ := σ) R1 ⟨q, e, po⟩ (jok_enum f1 f3)⟩⟩
      | scr es =>
        obtain ⟨a, xs, rfl, f1, f2, f3⟩ := list_sq R1 r1 (show listOf (.scr es) = some ds from hx)
        exact ⟨a, xs, rfl, .inl ⟨f2, at_ok (W := W) (σ := σ) R1 ⟨q, e, po⟩ (jok_enum f1 f3)⟩⟩
      | _ => cases hx
def zipL (as bs : List PD) : List PD := as.zipWith (fun a b => .tup [a, b]) bs
def iZipD (g h : EX) : IX := fun ρ M => bnd (g ρ M) fun v M1 => bnd (h ρ M1) fun w M2 => match v, w with
  | .d x, .d y => (match listOf x, listOf y with
    | some as, some bs => some (.ok (zipL as bs) M2)
    | _, _ => (match x, y with
      | .tup as, .tup bs => some (.ok (zipL as bs) M2)
      | .lst as, .tup bs => some (.ok (zipL as bs) M2)
      | _, _ => none))
  | _, _ => none
theorem zipL_get {ds es : List PD} {i : Nat} (h1 : i < ds.length) (h2 : i < es.length) : (zipL ds es)[i]? = some (.tup [ds[i], es[i]]) := by
  unfold zipL
  rw [List.getElem?_zipWith, List.getElem?_eq_getElem h1, List.getElem?_eq_getElem h2]
theorem jok_zip {K : PySem.W.Frag} {F : Hp} {a b : Addr} {xs ys : List V} {ds es : List PD} (hF : SqL K F a xs) (r : Reps K T F xs ds) (hG : SqL K F b ys) (r2 : Reps K T F ys es) : Jok K T (Itz K a b) F (zipL ds es) := fun H' M' F' α' sm R i => by
  have hq : SqL K H' a xs := sqL_H R (sqL_mono sm hF)
  have hq2 : SqL K H' b ys := sqL_H R (sqL_mono sm hG)
  have hl : (zipL ds es).length = min ds.length es.length := by simp [zipL]
  rw [hl]
  refine ⟨fun hi => ?_, fun hi => ⟨xs, ys, hq, hq2, by rw [r.length, r2.length]; omega⟩⟩
  have h1 : i < ds.length := by omega
  have h2 : i < es.length := by omega
  obtain ⟨v, hv, rv⟩ := r.get (i := i) (d := ds[i]) (by simp [h1])
  obtain ⟨w, hw, rw'⟩ := r2.get (i := i) (d := es[i]) (by simp [h2])
  refine ⟨⟨xs, ys, v, w, hq, hq2, hv, hw⟩, fun x H2 ⟨t, y, z, e, hT, e2, hy, hz⟩ => ?_⟩
  subst e e2
  have hx := hy xs hq
  rw [hv] at hx
  cases hx
  have hx2 := hz ys hq2
  rw [hw] at hx2
  cases hx2
  have sn := same_new (o := HO.tup [v, w]) (R.freeF hT)
  exact ⟨_, R.new hT, step_new R hT, .tup [ds[i], es[i]], zipL_get h1 h2, .tup (SqT.of upd_same) (.cons ((rv.mono sm).mono sn) (.cons ((rw'.mono sm).mono sn) .nil))⟩
theorem jok_zipT {K : PySem.W.Frag} {F : Hp} {a b : Addr} {xs ys : List V} {ds es : List PD} (hF : SqT K F a xs) (r : Reps K T F xs ds) (hG : SqT K F b ys) (r2 : Reps K T F ys es) : Jok K T (RZ.ItzT K a b) F (zipL ds es) := fun H' M' F' α' sm R i => by
  have hq : SqT K H' a xs := sqT_H R (sqT_mono sm hF)
  have hq2 : SqT K H' b ys := sqT_H R (sqT_mono sm hG)
  have hl : (zipL ds es).length = min ds.length es.length := by simp [zipL]
  rw [hl]
  refine ⟨fun hi => ?_, fun hi => ⟨xs, ys, hq, hq2, by rw [r.length, r2.length]; omega⟩⟩
  have h1 : i < ds.length := by omega
  have h2 : i < es.length := by omega
  obtain ⟨v, hv, rv⟩ := r.get (i := i) (d := ds[i]) (by simp [h1])
  obtain ⟨w, hw, rw'⟩ := r2.get (i := i) (d := es[i]) (by simp [h2])
  refine ⟨⟨xs, ys, v, w, hq, hq2, hv, hw⟩, fun x H2 ⟨t, y, z, e, hT, e2, hy, hz⟩ => ?_⟩
  subst e e2
  have hx := hy xs hq
  rw [hv] at hx
  cases hx
  have hx2 := hz ys hq2
  rw [hw] at hx2
  cases hx2
  have sn := same_new (o := HO.tup [v, w]) (R.freeF hT)
  exact ⟨_, R.new hT, step_new R hT, .tup [ds[i], es[i]], zipL_get h1 h2, .tup (SqT.of upd_same) (.cons ((rv.mono sm).mono sn) (.cons ((rw'.mono sm).mono sn) .nil))⟩
theorem jok_zipM {K : PySem.W.Frag} {F : Hp} {a b : Addr} {xs ys : List V} {ds es : List PD} (hF : SqL K F a xs) (r : Reps K T F xs ds) (hG : SqT K F b ys) (r2 : Reps K T F ys es) : Jok K T (ItzM K a b) F (zipL ds es) := fun H' M' F' α' sm R i => by
  have hq : SqL K H' a xs := sqL_H R (sqL_mono sm hF)
  have hq2 : SqT K H' b ys := sqT_H R (sqT_mono sm hG)
  have hl : (zipL ds es).length = min ds.length es.length := by simp [zipL]
  rw [hl]
  refine ⟨fun hi => ?_, fun hi => ⟨xs, ys, hq, hq2, by rw [r.length, r2.length]; omega⟩⟩
  have h1 : i < ds.length := by omega
  have h2 : i < es.length := by omega
  obtain ⟨v, hv, rv⟩ := r.get (i := i) (d := ds[i]) (by simp [h1])
  obtain ⟨w, hw, rw'⟩ := r2.get (i := i) (d := es[i]) (by simp [h2])
  refine ⟨⟨xs, ys, v, w, hq, hq2, hv, hw⟩, fun x H2 ⟨t, y, z, e, hT, e2, hy, hz⟩ => ?_⟩
  subst e e2
  have hx := hy xs hq
  rw [hv] at hx
  cases hx
  have hx2 := hz ys hq2
  rw [hw] at hx2
  cases hx2
  have sn := same_new (o := HO.tup [v, w]) (R.freeF hT)
  exact ⟨_, R.new hT, step_new R hT, .tup [ds[i], es[i]], zipL_get h1 h2, .tup (SqT.of upd_same) (.cons ((rv.mono sm).mono sn) (.cons ((rw'.mono sm).mono sn) .nil))⟩
theorem di_zip (hm : X.mg "zip" = none) (ha : PE X e (tE X.K T W g)) (hb : PE X e2 (tE X.K T W h)) (hg : Gl X "zip" := by rfl) (hs : starEach [e, e2] X.env = (false, eval e X.env) :: starEach [e2] X.env := by rfl) (hs2 : starEach [e2] X.env = (false, eval e2 X.env) :: starEach [] X.env := by rfl)
    (hpl : (backTo pos (starEach [e2] X.env)).any (·.1) = false := by rfl) : PI X (.Tuple elts kk tpos) (.Call (.Name "zip" p) [e, e2] [] pos) (iD X.K T W (iZipD g h)) := by
  refine piImp (pi_zipB hg hm (pa_cons ha (pa_cons hb pa_nil hs2) hs) hs hpl) fun σ H Rr hh => ?_
  obtain ⟨ρ, M, F, α, L, R, hh⟩ := rd_to hh
  refine rd_of L R (at_bind hh fun x M1 v H1 F1 α1 s1 R1 r1 h1 => ?_)
  refine rd_of (L.mono s1) R1 (at_bind h1 fun y M2 w H2 F2 α2 s2 R2 r2 h2 => ?_)
  obtain ⟨q, e, po⟩ := h2
  have r1 := r1.mono s2
  cases x with
  | r _ => cases e
  | d x =>
    cases y with
    | r _ => cases e
    | d y =>
      dsimp only at e
      split at e
      · rename_i as bs hx hy
        obtain ⟨a, xs, rfl, f1, f2, f3⟩ := list_sq R2 r1 hx
        obtain ⟨b, ys, rfl, g1, g2, g3⟩ := list_sq R2 r2 hy
        exact ⟨a, b, xs, ys, rfl, .inl ⟨f2, g2, at_ok (W := W) (σ := σ) R2 ⟨q, e, po⟩ (jok_zip f1 f3 g1 g3)⟩⟩
      · split at e
        · cases r1 with
          | tup f1 f3 =>
            cases r2 with
            | tup g1 g3 => exact ⟨_, _, _, _, rfl, .inr (.inl ⟨sqT_H R2 f1, sqT_H R2 g1, at_ok (W := W) (σ := σ) R2 ⟨q, e, po⟩ (jok_zipT f1 f3 g1 g3)⟩)⟩
        · cases r1 with
          | lst f1 f3 =>
            cases r2 with
            | tup g1 g3 => exact ⟨_, _, _, _, rfl, .inr (.inr ⟨SqL.of (lst_H R2 f1), sqT_H R2 g1, at_ok (W := W) (σ := σ) R2 ⟨q, e, po⟩ (jok_zipM (SqL.of f1) f3 g1 g3)⟩)⟩
        · cases e
end
end Mi
namespace Mi
open PySem PySem.Spec PyProof.Rows L2
def clsX (M : MH) : VL → Option Nat
  | .d (.ins c _) => some c
  | .r k => match M[k]? with
    | some (.ins c _) => some c
    | _ => none
  | _ => none
/-- a field by its name -/
def fldX (fn : Nat → List Str) (f : Str) (M : MH) : VL → Option VL
  | .d (.ins c vs) => (((fn c).zip vs).lookup f).map VL.d
  | .r k => match M[k]? with
    | some (.ins _ gs) => gs.lookup f
    | _ => none
  | _ => none
/-- no field of that name -/
def bareX (fn : Nat → List Str) (f : Str) (M : MH) : VL → Bool
  | .d (.ins c _) => !((fn c).contains f)
  | .r k => match M[k]? with
    | some (.ins _ gs) => !((gs.map (·.1)).contains f)
    | _ => false
  | _ => false
def putL (f : Str) (v : VL) : List (Str × VL) → List (Str × VL)
  | [] => [(f, v)]
  | (g, x) :: r => if g = f then (g, v) :: r else (g, x) :: putL f v r
section
variable {K : PySem.W.Frag} {T : Tb} {F H : Hp} {α : List Addr} {M : MH}
theorem RepVs.pds : ∀ {vs : List V} {ds : List PD}, Reps K T F vs ds → RepVs K T F α vs (ds.map VL.d)
  | _, [], h => by cases h; exact .nil
  | _, d :: ds, h => by
    cases h with
    | cons h1 h2 => exact .cons (d := .d d) h1 (RepVs.pds h2)
theorem lookup_rep {f : Str} : ∀ {fs : List (Str × V)} {gs : List (Str × VL)} {x : VL}, fs.map (·.1) = gs.map (·.1) → RepVs K T F α (fs.map (·.2)) (gs.map (·.2)) → gs.lookup f = some x → ∃ v, fs.lookup f = some v ∧ RepV K T F α v x
  | [], [], _, _, _, e => by cases e
  | [], _ :: _, _, h, _, _ => by cases h
  | _ :: _, [], _, h, _, _ => by cases h
  | (a, v) :: fs, (b, y) :: gs, x, h, r, e => by
    have h1 : a = b := List.head_eq_of_cons_eq h
    have h2 : fs.map (·.1) = gs.map (·.1) := List.tail_eq_of_cons_eq h
    subst h1
    cases r with
    | cons r1 r2 =>
      rw [List.lookup_cons] at e ⊢
      cases q : f == a with
      | true =>
        rw [q] at e
        have e := Option.some.inj e
        subst e
        exact ⟨v, rfl, r1⟩
      | false =>
        rw [q] at e
        exact lookup_rep h2 r2 e
theorem lookup_noneF {f : Str} : ∀ {fs : List (Str × V)}, (fs.map (·.1)).contains f = false → fs.lookup f = none
  | [], _ => rfl
  | (a, v) :: fs, h => by
    rw [List.map_cons, List.contains_cons, Bool.or_eq_false_iff] at h
    rw [List.lookup_cons, h.1]
    exact lookup_noneF h.2
/-- what stands at an own object -/
theorem cls_at (R : HR K T H M F α) {v : V} {x : VL} {c : Nat} (r : RepV K T F α v x) (h : clsX M x = some c) : ∃ a dx fs, v = .ref a ∧ H a = some (.ins (T.ca c) dx fs) ∧
    (∀ f y, fldX T.fn f M x = some y → ∃ u, fs.lookup f = some u ∧ RepV K T F α u y) ∧ (∀ f, bareX T.fn f M x = true → fs.lookup f = none) := by
  cases x with
  | d y =>
    cases y with
    | ins c' vs =>
      have e : c' = c := Option.some.inj h
      subst e
      cases r with
      | ins h1 h2 h3 h4 =>
        rename_i a dx fs xs
        refine ⟨_, _, _, rfl, ins_H R h1, fun f y e => ?_, fun f e => ?_⟩
        · have e : (((T.fn c').zip vs).lookup f).map VL.d = some y := e
          cases q : ((T.fn c').zip vs).lookup f with
          | none => rw [q] at e; cases e
          | some d =>
            rw [q] at e
            have e := Option.some.inj e
            subst e
            have hl : vs.length = fs.length := by rw [← h4.length, ← h3, List.length_map]
            have hl2 : (T.fn c').length = fs.length := by rw [← h2, List.length_map]
            have key : ((T.fn c').zip (vs.map VL.d)).lookup f = some (VL.d d) := by
              have : ∀ (ns : List Str) (ds : List PD), (ns.zip ds).lookup f = some d → (ns.zip (ds.map VL.d)).lookup f = some (VL.d d) := by
                intro ns
                induction ns with
                | nil => intro ds h; cases h
                | cons n ns ih =>
                  intro ds h
                  cases ds with
                  | nil => cases h
                  | cons b ds =>
                    rw [List.map_cons, List.zip_cons_cons, List.lookup_cons]
                    rw [List.zip_cons_cons, List.lookup_cons] at h
                    cases q : f == n with
                    | true => rw [q] at h; cases h; rfl
                    | false => rw [q] at h; exact ih ds h
              exact this _ _ q
            refine lookup_rep (gs := (T.fn c').zip (vs.map VL.d)) ?_ ?_ key
            · rw [h2, List.map_fst_zip (by rw [List.length_map]; omega)]
            · rw [h3, List.map_snd_zip (by rw [List.length_map]; omega)]
              exact RepVs.pds h4
        · refine lookup_noneF ?_
          rw [h2]
          have e : (!((T.fn c').contains f)) = true := e
          simpa using e
    | _ => cases h
  | r k =>
    obtain ⟨a, ha, rfl⟩ := r
    have h : (match M[k]? with
      | some (.ins c _) => some c
      | _ => none) = some c := h
    cases hm : M[k]? with
    | none => rw [hm] at h; cases h
    | some mo =>
      rw [hm] at h
      cases mo with
      | ins c' gs =>
        have e : c' = c := Option.some.inj h
        subst e
        obtain ⟨dx, fs, h1, h2, h3⟩ := R.obj k _ a hm ha
        refine ⟨a, dx, fs, rfl, h1, fun f y e => ?_, fun f e => ?_⟩
        · have e : (match M[k]? with
            | some (.ins _ gs) => gs.lookup f
            | _ => none) = some y := e
          rw [hm] at e
          exact lookup_rep h2 h3 e
        · have e : (match M[k]? with
            | some (.ins _ gs) => !((gs.map (·.1)).contains f)
            | _ => false) = true := e
          rw [hm] at e
          refine lookup_noneF ?_
          rw [h2]
          simpa using e
      | _ => cases h
end
def eFld (fn : Nat → List Str) (cs : List Nat) (f : Str) (g : EX) : EX := fun ρ M => bnd (g ρ M) fun x M1 => match clsX M1 x with
  | some c => if cs.contains c = true then (match fldX fn f M1 x with
    | some y => some (.ok y M1)
    | none => none) else none
  | none => none
/-- e.f, a property: by the object's class the getter's number -/
def eProp (tb : List (Nat × Nat)) (G : Nat → Fn) (g : EX) : EX := fun ρ M => bnd (g ρ M) fun x M1 => match clsX M1 x with
  | some c => (match tb.lookup c with
    | some i => (match G i [x] M1 with
      | some (.ok y M2) => some (.ok y M2)
      | _ => none)
    | none => none)
  | none => none
/-- e.m(..) -/
def eMth (fn : Nat → List Str) (m : Str) (tb : List (Nat × Nat)) (G : Nat → Fn) (g : EX) (gs : AX) : EX := fun ρ M => bnd (g ρ M) fun x M1 => match clsX M1 x with
  | some c => (match tb.lookup c with
    | some i => if bareX fn m M1 x = true then bnd (gs ρ M1) fun xs M2 => G i (x :: xs) M2 else none
    | none => none)
  | none => none
section
variable {X : Cx} {T : Tb} {W : WX} {g : EX} {gs : AX} {e : Expr} {es : List Expr} {pos apos : Pos} {f m : Str}
abbrev E9 : XK := fun _ _ _ => False
theorem passes9 {Y : Cx} : Passes (L2N.CX X.prog X.w) Y E9 := fun _ _ _ _ _ _ _ c => by
  obtain ⟨_, _, _, _, _, _, _, _, _, _, _, _, z⟩ := c
  exact z.elim
end
def pdsF : List (Str × VL) → Option (List PD)
  | [] => some []
  | (_, .d x) :: r => (match pdsF r with
    | some xs => some (x :: xs)
    | none => none)
  | (_, .r _) :: _ => none
/-- what was made: never changed again -/
def frzX (fn : Nat → List Str) (c n : Nat) (M : MH) : Option (Rs VL) := match M[n]? with
  | some (.ins c' gs) => if c' = c ∧ gs.map (·.1) = fn c then (match pdsF gs with
    | some vs => some (.ok (.d (.ins c vs)) (M.take n))
    | none => none) else none
  | _ => none
def mkX (fn : Nat → List Str) (c : Nat) (f : Fn) : Fn := fun xs M => match f (.r M.length :: xs) (M ++ [.ins c []]) with
  | some (.ok (.d .non) M2) => frzX fn c M.length M2
  | some (.ex c' ds M2) => some (.ex c' ds (M2.take M.length))
  | _ => none
/-- how a method is found -/
def MthOk (X : Cx) (T : Tb) (m : Str) (k : Nat) (tb : List (Nat × Nat)) (G : Nat → Fn) : Prop := ∀ c i, tb.lookup c = some i → ∃ f fd ps, Cls X.K (T.ca c) ∧ Meth X.K (T.ca c) m f ∧ FnOk X.prog X.w X.K X.mg X.base (L2N.CX X.prog X.w) k f fd ps (fnD X.K T (G i)) ∧ Binds X.K fd ps []
end Mi
namespace Mi
open PySem PySem.Spec PyProof.Rows L2
theorem vl1 {v : V} {u : Value} (h : RelV v u) : Vals [v] [u] := .cons h .nil
theorem vref (a : Addr) : RelV (V.ref a) (Value.ref a) := rfl
section
variable {X : Cx} {pins : List (Addr × Obj)} {σ : L2.St} {H : Hp} {s : Shared} {T : Tb}
theorem inst_of {a C dx : Addr} {fs : List (Str × V)} (I : L2.Inv X pins σ H s) (ea : H a = some (.ins C dx fs)) : ∃ ox od, PySem.W.InstAt s.heap a ox C od := by
  obtain ⟨mA, O, _, _, _, _⟩ := ins_get I.hok ea
  obtain ⟨od, J, _⟩ := O.look
  exact ⟨_, _, J⟩
/-- an own def called from below the running body, without errors -/
theorem call9 {A : Around} {k : Nat} {f : Addr} {fd : FuncData} {ps : List Str} {fn : Fn} {us : List Value} {vs : List V} {Q : VK} {E' : Value → Shared → Prop} (F : FnOk X.prog X.w X.K X.mg X.base (L2N.CX X.prog X.w) k f fd ps (fnD X.K T fn))
    (hr : Room k A) (hf : A.frames = X.A.frames) (hb : Binds X.K fd ps []) (I : L2.Inv X pins σ H s) (r : Vals vs us) (h : fnD X.K T fn vs H Q E9) : wpAny (model X.prog X.w) A (call (.ref f) us) (EP X pins σ Q) E' s := by
  have e0 : Env0 X.prog X.w X.K X.mg X.base A X.stack s H := by
    have e := I.env0
    exact ⟨by rw [hf]; exact e.frames, e.mod, e.bs, e.bsz, e.funs, e.frf, e.hok, e.bare⟩
  have hl : (us ++ ([] : List Value)).length = ps.length := by
    rw [List.append_nil, ← r.length]; exact F.len _ _ _ _ h
  refine wpAny_call (codeAny_mono (F.run A X.stack s H ⟨us, []⟩ us vs Q E9 hr e0 (by
    have := hb s us I.kIn hl
    simpa using this) r h) fun r s' hq => ?_)
  cases r with
  | error e =>
    obtain ⟨_, _, _, _, _, _, _, _, _, _, _, _, z⟩ := hq
    exact z.elim
  | ok fl =>
    cases fl with
    | ret w => exact I.after hq
    | next => exact False.elim hq
    | brk => exact False.elim hq
    | cont => exact False.elim hq
end
def okR : Option (Rs VL) → Option (Rs VL)
  | some (.ok y M) => some (.ok y M)
  | _ => none
theorem okR_some {r : Option (Rs VL)} {q : Rs VL} (h : okR r = some q) : ∃ y M, r = some (.ok y M) ∧ q = .ok y M := by
  cases r with
  | none => cases h
  | some z =>
    cases z with
    | ok y M => exact ⟨y, M, rfl, (Option.some.inj h).symm⟩
    | ex _ _ _ => cases h
/-- by the class of x the own function, else f on data -/
def own1 (tb : List (Nat × Nat)) (G : Nat → Fn) (f : PD → Option PD) (x : VL) (M : MH) : Option (Rs VL) := match clsX M x with
  | some c => (match tb.lookup c with
    | some i => okR (G i [x] M)
    | none => none)
  | none => op1 f x M
def mateX (c : Nat) (M : MH) (y : VL) : Bool := (clsX M y == some c) || (match y with
  | .d (.int _) => true
  | _ => false)
def own2 (tb : List (Nat × Nat)) (G : Nat → Fn) (f : PD → PD → Option PD) (x y : VL) (M : MH) : Option (Rs VL) := match clsX M x with
  | some c => (match tb.lookup c with
    | some i => if mateX c M y = true then okR (G i [x, y] M) else none
    | none => none)
  | none => op2 f x y M
/-- == of two of one class -/
def ownEq (tb : List (Nat × Nat)) (G : Nat → Fn) (f : PD → PD → Option PD) (x y : VL) (M : MH) : Option (Rs VL) := match clsX M x with
  | some c => (match tb.lookup c with
    | some i => if clsX M y = some c then okR (G i [x, y] M) else none
    | none => none)
  | none => op2 f x y M
def notR : Option (Rs VL) → Option (Rs VL)
  | some (.ok (.d (.bl b)) M) => some (.ok (.d (.bl (!b))) M)
  | _ => none
def ownNe (tb : List (Nat × Nat)) (G : Nat → Fn) (f : PD → PD → Option PD) (x y : VL) (M : MH) : Option (Rs VL) := match clsX M x with
  | some c => (match tb.lookup c with
    | some i => if clsX M y = some c then notR (G i [x, y] M) else none
    | none => none)
  | none => op2 f x y M
def blR : Option (Rs VL) → Option (Rs VL)
  | some (.ok (.d (.bl b)) M) => some (.ok (.d (.bl b)) M)
  | _ => none
/-- x in y, y of an own class -/
def ownIn (tb : List (Nat × Nat)) (G : Nat → Fn) (f : PD → PD → Option PD) (x y : VL) (M : MH) : Option (Rs VL) := match clsX M y with
  | some c => (match tb.lookup c with
    | some i => blR (G i [y, x] M)
    | none => none)
  | none => op2 f x y M
def ownNi (tb : List (Nat × Nat)) (G : Nat → Fn) (f : PD → PD → Option PD) (x y : VL) (M : MH) : Option (Rs VL) := match clsX M y with
  | some c => (match tb.lookup c with
    | some i => notR (G i [y, x] M)
    | none => none)
  | none => op2 f x y M
section
variable (K : PySem.W.Frag) (T : Tb)
def rO1 (g : VL → MH → Option (Rs VL)) : V → Hp → VK → Prop := fun x H Q => ∃ M F α vx W σ', HR K T H M F α ∧ RepV K T F α x vx ∧ at_ K T W (RepV K T) σ' H F α Q (g vx M)
end
def clfB (K : PySem.W.Frag) (C : Addr) : Bool := PySem.W.selfFirst K C && (He.eqO (PySem.W.findIn K (.ref C) "__ne__") (some (some (.builtin "object.__ne__"))) && (decide (PySem.W.mroIn K C (.type "object") = some true) && He.eqO (PySem.W.findIn K (.ref C) "__format__") (some (some (.builtin "object.__format__")))))
def bintB (K : PySem.W.Frag) (C : Addr) (nm : String) : Bool := (match PySem.W.findIn K (.ref C) (dunderR nm) with
    | some none => true
    | some (some (.ref _)) => true
    | _ => false) && ((PySem.W.findIn K (.type "int") (PySem.dunder nm)).isSome && ((PySem.W.findIn K (.type "int") (dunderR nm)).isSome && decide (PySem.W.subIn K (.type "int") (.ref C) = some false)))
section
variable {X : Cx} {T : Tb} {k : Nat} {tb : List (Nat × Nat)} {G : Nat → Fn}
theorem fn9r {K : PySem.W.Frag} {H F : Hp} {α : List Addr} {M M2 : MH} {Q : VK} {fn : Fn} {vs : List V} {xs : List VL} {y : VL} (R : HR K T H M F α) (r : RepVs K T F α vs xs) (e : fn xs M = some (.ok y M2))
    (h : ∀ v H' F' α', HR K T H' M2 F' α' → Step H F α H' F' α' → RepV K T F' α' v y → Q v H') : fnD K T fn vs H Q E9 := ⟨M, F, α, xs, R, r, _, e, h⟩
theorem un_own {op : UnaryOp} {m : Str} {f : PD → Option PD} (ho : UnR X (unaryOp op) (rP1 X.K T f)) (hc : MthOk X T m k tb G) (hr : Room k X.A)
    (hop : ∀ {M : Model} {A : Around} {E : Value → Shared → Prop} {s : Shared} {x C L f : Addr} {h₀ : Heap} {mm : Str → Option Value} {ox : Obj} {od : Option Obj} {Q : Value → Shared → Prop}, Fr h₀ L s.heap mm → X.K.In h₀ → PySem.W.InstAt s.heap x ox C od → PySem.W.findIn X.K (.ref C) m = some (some (.ref f)) → PySem.W.isFn X.K (.ref f) = true →
      wpAny M A (call (.ref f) [.ref x]) Q E s → wpAny M A (unaryOp op (.ref x)) Q E s) : UnR X (unaryOp op) (rO1 X.K T (own1 tb G f)) := by
  intro pins s σ H x v Q I rx ⟨M, F, α, vx, W, σ', R, r, hh⟩
  cases h1 : clsX M vx with
  | none =>
    refine ho pins s σ H x v Q I rx (at_op1 (W := W) (σ := σ') R r ?_)
    have e : own1 tb G f vx M = op1 f vx M := by unfold own1; rw [h1]
    rw [e] at hh
    exact hh
  | some c =>
    obtain ⟨q, e, po⟩ := hh
    unfold own1 at e
    rw [h1] at e
    dsimp only at e
    cases h3 : tb.lookup c with
    | none => rw [h3] at e; cases e
    | some i =>
      rw [h3] at e
      obtain ⟨y, M2, e2, rfl⟩ := okR_some e
      obtain ⟨a, dx, fs, rfl, ha, _, _⟩ := cls_at R r h1
      obtain ⟨g, fd, ps, c1, c2, c3, c4⟩ := hc c i h3
      obtain rfl : v = Value.ref a := rx
      obtain ⟨ox, od, J⟩ := inst_of I ha
      obtain ⟨m, hF⟩ := I.fr
      exact hop hF I.ok.mod.kin J c2.at_ c2.fn (call9 c3 hr rfl c4 I (vl1 (vref a)) (fn9r R (.cons r .nil) e2 po))
theorem un_neg {f : PD → Option PD} (ho : UnR X (unaryOp .USub) (rP1 X.K T f)) (hc : MthOk X T "__neg__" k tb G) (hr : Room k X.A) : UnR X (unaryOp .USub) (rO1 X.K T (own1 tb G f)) :=
  un_own ho hc hr fun F X0 I hs hf h => PySem.W.ksp_neg F X0 I hs hf h
def noD1 : PD → Option PD := fun _ => none
def noD2 : PD → PD → Option PD := fun _ _ => none
def lenR : Option (Rs VL) → Option (Rs VL)
  | some (.ok (.d (.int n)) M) => if 0 ≤ n ∧ n < 2 ^ 63 then some (.ok (.d (.int n)) M) else none
  | _ => none
def ownLen (tb : List (Nat × Nat)) (G : Nat → Fn) (f : List PD → Option PD) (x : VL) (M : MH) : Option (Rs VL) := match clsX M x with
  | some c => (match tb.lookup c with
    | some i => lenR (G i [x] M)
    | none => none)
  | none => opN f [x] M
def strR : Option (Rs VL) → Option (Rs VL)
  | some (.ok (.d (.str z)) M) => some (.ok (.d (.str z)) M)
  | _ => none
def ownStr (tb : List (Nat × Nat)) (G : Nat → Fn) (f : List PD → Option PD) (x : VL) (M : MH) : Option (Rs VL) := match clsX M x with
  | some c => (match tb.lookup c with
    | some i => strR (G i [x] M)
    | none => none)
  | none => opN f [x] M
end
def eUn2 (g2 : VL → MH → Option (Rs VL)) (g : EX) : EX := fun ρ M => bnd (g ρ M) fun x M1 => g2 x M1
def eBin2 (g2 : VL → VL → MH → Option (Rs VL)) (g h : EX) : EX := fun ρ M => bnd (g ρ M) fun x M1 => bnd (h ρ M1) fun y M2 => g2 x y M2
def one1 (g2 : VL → MH → Option (Rs VL)) : List VL → MH → Option (Rs VL)
  | [x], M => g2 x M
  | _, _ => none
end Mi
namespace Mi
open PySem PySem.Spec PyProof.Rows L2
def oldV (k : Nat) : VL → Bool
  | .r j => decide (j < k)
  | _ => true
def setF (cs : List Nat) (f : Str) (y x : VL) (M : MH) : Option MH := match x with
  | .r k => (match M[k]? with
    | some (.ins c gs) => if (cs.contains c && (decide (gs.length < 1000) && oldV k y)) = true then some (M.set k (.ins c (putL f y gs))) else none
    | _ => none)
  | _ => none
def sSetF (cs : List Nat) (f : Str) (go gv : EX) : SX := fun ρ M => bndS (gv ρ M) ρ fun y M1 => bndS (go ρ M1) ρ fun x M2 => match setF cs f y x M2 with
  | some M3 => some (.nx, ρ, M3)
  | none => none
section
variable {X : Cx} {T : Tb} {W : WX} {g go gv : EX} {gs gk : AX} {o e value : Expr} {es : List Expr} {pos pos' apos : Pos} {f m : Str}
def withD (dps : List PD) (fn : Fn) : Fn := fun xs M => fn (xs ++ dps.map VL.d) M
def eMthK (fn : Nat → List Str) (m : Str) (tb : List (Nat × Nat)) (idx : List Nat) (nk : Nat) (G : Nat → Fn) (g : EX) (gk : AX) : EX := fun ρ M => bnd (g ρ M) fun x M1 => match clsX M1 x with
  | some c => (match tb.lookup c with
    | some i => if bareX fn m M1 x = true then bnd (gk ρ M1) fun zs M2 => if zs.length = nk then G i (permL idx (x :: zs)) M2 else none else none
    | none => none)
  | none => none
def isiO (cs : List Nat) (cc : Nat) (x : VL) (M : MH) : Option (Rs VL) := match clsX M x with
  | some c => if cs.contains c = true then some (.ok (.d (.bl (c == cc))) M) else none
  | none => (match dv M x with
    | some d => (match tyS d with
      | some _ => some (.ok (.d (.bl false)) M)
      | none => none)
    | none => none)
def isiX (cs : List Nat) (b : String) (x : VL) (M : MH) : Option (Rs VL) := match clsX M x with
  | some c => if cs.contains c = true then some (.ok (.d (.bl false)) M) else none
  | none => (match dv M x with
    | some d => (match tyS d with
      | some a => some (.ok (.d (.bl (isiT b a))) M)
      | none => none)
    | none => none)
end
end Mi
namespace Mi
open PySem PySem.Spec PyProof.Rows L2
section
open PySem.W PySem.Calls PySem.HandSPX PySem.Builtin PySem.Builtin.ObjectAttr
variable {prog : Program} {w : World} {A : Around} {R : Result → Shared → Prop} {hp : Heap} {g : Array GenState} {d : Drawn} {t : Nat} {os : OsState}
theorem exc_osaG {B : String} {bmB : List Value} {K : PySem.W.Frag} {name : Str} {tk : Tok} {v : Value} {x C : Addr} {fv : Array Value} (SF : StoreFacts B bmB "object.__setattr__" "object")
    (X : K.In hp) (hx : hp.get? x = some { cls := .ref C, data := .fields fv }) (ov : PySem.W.excOver K C bmB = true) (hdc : PySem.W.hasDictIn K C = true) (ha : PySem.W.findIn K (.ref C) name = some none)
    (hq : ∀ h' tk' dx, (∀ b o, b ≠ x → hp.get? b = some o → h'.get? b = some o) → hp.objs.size ≤ dx → dx ≠ x → h'.get? x = some { cls := .ref C, dict := some dx, data := .fields fv } → h'.Ns1 dx (fun y => if y = name then some v else none) → R (.ok (.ret .none)) ⟨h', g, d, tk', os⟩) :
    codeAny (model prog w) A (.call (.builtin "object.__setattr__") ⟨[.ref x, .str name tk, v], []⟩) R ⟨hp, g, d, t, os⟩ := by
  have I : PySem.W.InstAt hp x { cls := .ref C, data := .fields fv } C none := ⟨hx, rfl, rfl, trivial⟩
  obtain ⟨cd, hcd, hh⟩ := PySem.W.any_some hdc
  have ht : PySem.W.takerIn K C name = some none := by
    unfold PySem.W.takerIn
    rw [ha]
    rfl
  refine PySem.W.osa_openX (s := ⟨hp, g, d, t, os⟩) SF X I ov ht fun b => ?_
  have hxs : x ≠ hp.objs.size := Nat.ne_of_lt (Heap.lt_size hx)
  have hcls : PySem.W.Looks (model prog w) hp (classData C) cd := PySem.W.looks_clsIn X hcd
  show wpAny _ _ (storeInOwnDict (.ref x) (.ref C) (.str name tk) name v b) _ _ _
  obtain ⟨nm, bs, mro, ns, qn, hd, sn, sb, ab, col, del⟩ := cd
  dsimp only at hh
  subst hh
  unfold storeInOwnDict ownDictForStores
  repeat (first | with_reducible refine store_in_new ?_ ?_ | with_reducible refine wpAny_loadPart_at hx ?_ | with_reducible refine hcls.at ?_ | wp_step)
  · exact ⟨_, #[], _, (Heap.get?_update_ne _ _ _ _ hxs.symm).trans (Heap.get?_push_at rfl rfl), rfl, fun e he => absurd he (by simp), fun _ => rfl⟩
  · intro h' tk' hn' hs
    have hx1 : (hp.push { cls := .type "dict", data := .dict #[] }).get? x = some { cls := .ref C, data := .fields fv } := Heap.get?_push_of_some _ hx
    refine hq h' tk' hp.objs.size (fun b o hb ho => ?_) (Nat.le_refl _) hxs.symm ?_ hn'
    · exact (hs.2 b (Nat.ne_of_lt (Heap.lt_size ho))).trans ((Heap.get?_update_ne _ _ _ _ hb).trans (Heap.get?_push_of_some _ ho))
    · exact (hs.2 x hxs).trans (Heap.get?_update_self _ hx1 rfl)
end
def xB : Bool → String
  | true => "ValueError"
  | false => "ArithmeticError"
def xNew : Bool → String
  | true => "ValueError.__new__"
  | false => "ArithmeticError.__new__"
def xIni : Bool → String
  | true => "ValueError.__init__"
  | false => "ArithmeticError.__init__"
def xBm : Bool → List Value
  | true => [.type "ValueError", .type "Exception", .type "BaseException", .type "object"]
  | false => [.type "ArithmeticError", .type "Exception", .type "BaseException", .type "object"]
theorem xF : ∀ b, ExcBaseFacts (xB b) (xNew b) (xIni b) (xBm b)
  | true => PySem.F.excBase_ValueError
  | false => PySem.F.excBase_ArithmeticError
theorem xS : ∀ b, StoreFacts (xB b) (xBm b) "object.__setattr__" "object"
  | true => PySem.F.store_ValueError
  | false => PySem.F.store_ArithmeticError
/-- what the head says of an error's class at C -/
structure OexG (K : PySem.W.Frag) (C : Addr) (b : Bool) : Prop where
  ini : PySem.W.excInitIn K C (xBm b) (xNew b) = true
  ovr : PySem.W.excOver K C (xBm b) = true
  hd : PySem.W.hasDictIn K C = true
  sa : PySem.W.findIn K (.ref C) "__setattr__" = some (some (.builtin "object.__setattr__"))
  exC : PySem.W.subIn K (.ref C) (.type "BaseException") = some true
  tyC : PySem.W.typeIn K (.ref C) = some (.type "type")
  kC : PySem.W.keepIn K (.ref C) = true
section
variable {X : Cx} {pins : List (Addr × Obj)} {σ : L2.St} {H : Hp} {s : Shared} {a C : Addr} {b : Bool} {f : Str} {y : V} {u : Value} {E : Value → Shared → Prop} {A : Around}
theorem ostG_new {Q : Unit → Shared → Prop} (T : OexG X.K C b) (I : Inv X pins σ H s) (e : H a = some (exo a C none)) (hno : PySem.W.findIn X.K (.ref C) f = some none) (ry : RelV y u)
    (h : ∀ dx s', H dx = none → dx ≠ a → Inv X pins σ (upd (upd H dx (exd dx [(f, y)])) a (exo a C (some dx))) s' → Q () s') : wpAny (model X.prog X.w) A (setAttr (.ref a) f u) Q E s := by
  obtain ⟨t1, ho⟩ := exo_at I.hok e
  obtain ⟨hp, g, d, t, os⟩ := s
  refine PySem.W.set_plain I.kIn (od := none) ⟨ho, rfl, rfl, trivial⟩ T.sa ?_
  refine exc_osaG (xS b) I.kIn ho T.ovr T.hd hno fun h' tk' dx k dn dne hx hn => ?_
  have free : H dx = none := I.hok.fresh dn
  have apart : ∀ {c : Addr} {o : Obj}, hp.get? c = some o → c ≠ dx := fun {c o} q => Nat.ne_of_lt (Nat.lt_of_lt_of_le (Heap.lt_size q) dn)
  have other : ∀ {c : Addr}, H c = none → c ≠ a := fun {c} n z => by rw [z, e] at n; cases n
  -- what is tracked stays, but a and dx
  have stay : ∀ {c : Addr} {o : HO}, H c = some o → o ≠ exo a C none → upd (upd H dx (exd dx [(f, y)])) a (exo a C (some dx)) c = some o := fun {c o} q n => by
    rw [upd_ne (fun z => n (by rw [z, e] at q; exact (Option.some.inj q).symm)), upd_ne (ne_of_none q free)]
    exact q
  refine h dx _ free dne (I.un (t' := tk') (H' := upd (upd H dx (exd dx [(f, y)])) a (exo a C (some dx))) ⟨fun c o q n _ _ => k c o (other n) q, fun c o q n _ _ => ⟨o.slots, k c o (other n) q⟩, fun c o q n _ => ?_, fun c o q _ => ?_, fun c xs q => stay q exo_tup.symm, fun c o v q => stay q exo_frz.symm, fun c ps q => ⟨#[], by rw [stay q exo_tbl.symm]; simp⟩⟩ fun c o q => ?_)
  · rw [upd_ne (other n), upd_ne (apart q)]
    exact n
  · by_cases hc : c = a
    · exact ⟨_, by rw [hc]; exact hx⟩
    · exact ⟨o, k c o hc q⟩
  · by_cases hc : c = a
    · subst hc
      rw [upd_same] at q
      cases q
      exact exo_ok hx
    · rw [upd_ne hc] at q
      by_cases hd : c = dx
      · subst hd
        rw [upd_same] at q
        cases q
        exact exd_ok hn (relO_put (fs := []) ry fun _ => True.intro)
      · rw [upd_ne hd] at q
        refine (I.hok c o q).stay (fun j v hj z => k j v (fun w => ?_) z) (fun j hj => stay hj exo_own.symm) fun j xs hj => stay hj exo_tup.symm
        rcases hj with hj | hj
        · exact hc (hj ▸ w)
        · rw [w, e] at hj
          exact exo_own (Option.some.inj hj)
end
/-- self.f = e, the only one -/
def tOstG (K : PySem.W.Frag) (b : Bool) (f : Str) (to te : TE) : TS := fun D σ H => te σ H fun y H1 => to σ H1 fun x H2 => ∃ a C : Addr, x = .ref a ∧ OexG K C b ∧ PySem.W.findIn K (.ref C) f = some none ∧ H2 a = some (exo a C none) ∧
  ∀ dx, H2 dx = none → dx ≠ a → D.nx σ (upd (upd H2 dx (exd dx [(f, y)])) a (exo a C (some dx)))
theorem ps_ostG {X : Cx} {o e : Expr} {to te : TE} {f : Str} {b : Bool} {p' pos : Pos} (ho : PE X o to) (he : PE X e te) (hs : swapsWith e (some (.Attribute o f p')) pos.line X.env = pure false := by rfl) : PS X (.Assign [.Attribute o f p'] e pos) (tOstG X.K b f to te) := by
  refine ⟨fun pins s σ H D I h => ?_⟩
  refine plainObj_wpAny_Assign_Attribute (thn (he.run pins s σ H _ I h) fun v s1 ⟨y, H1, I1, r1, q1⟩ => thn (ho.run pins s1 σ H1 _ I1 q1) fun u s2 ⟨x, H2, I2, r2, a, C, ex, T, hno, ea, q⟩ => ?_) hs
  subst ex
  obtain rfl : u = Value.ref a := r2
  exact ostG_new T I2 ea hno r1 fun dx s' n ne J => ⟨σ, _, J, q dx n ne⟩
/-- what such an __init__ does -/
def spXi (C : Addr) (f : Str) : Sp := fun vs H Q _ => ∃ (a : Addr) (y : V), vs = [.ref a, y] ∧ H a = some (exo a C none) ∧ ∀ dx, H dx = none → dx ≠ a → Q .non (upd (upd H dx (exd dx [(f, y)])) a (exo a C (some dx)))
theorem fn_xi {P : Program} {w : World} {K : PySem.W.Frag} {mg : Str → Option Value} {base : Heap} {x qual : Str} {params : Arguments} {body : List Stmt} {scope : Scope} {dvs : List V} {kws : List (Str × V)} {fa C : Addr} {fd : FuncData} {N ps : List Str} {k : Nat} {b : Bool} {f : Str}
    (T : OexG K C b) (hno : PySem.W.findIn K (.ref C) f = some none) (F : FunD K x qual params body scope dvs kws fa fd) (S : FnScope N ps scope) (hl : ps.length = 2) (hN : N.length = 2)
    (hb : ∀ (cdv : Value) (A : Around) (outer : List Env) (s : Shared) (H : Hp) (E : XK), PSs (cxOf (L2N.CX P w) P w K mg base N qual scope fa cdv A outer s H E) body (tOstG K b f (tVar 0) (tVar 1))) :
    FnOk P w K mg base (L2N.CX P w) (k + 1) fa fd ps (spXi C f) := by
  refine F.ok S (fun vs H Q E ⟨a, y, e, _⟩ => by rw [e, hl]; rfl) fun cdv A outer s H vs Q E hr ⟨a, y, e, ea, q⟩ => ⟨_, hb cdv A outer s H E, ?_⟩
  subst e
  refine ⟨y, ?_, .ref a, ?_, a, C, rfl, T, hno, ea, q⟩
  · unfold L2.start
    simp
  · unfold L2.start
    simp
/-- C(e) -/
def tMkX (C : Addr) (f : Str) (ta : TA) : L2.St → Hp → XK → Prop := fun σ H Q => ta σ H fun vs H1 => ∃ v, vs = [v] ∧ ∀ d, H1 d = none → Q (.ref C) (some d) (upd H1 d (.xd [(f, v)]))
section
variable {X : Cx} {x : Str} {C fI : Addr} {k : Nat} {fd : FuncData} {ps : List Str} {b : Bool} {f : Str} {e : Expr} {ta : TA} {p pos : Pos}
theorem pmk_x (T : OexG X.K C b) (iC : PySem.W.findIn X.K (.ref C) "__init__" = some (some (.ref fI))) (tI : PySem.W.typeIn X.K (.ref fI) = some (.type "function")) (F1 : FnOk X.prog X.w X.K X.mg X.base (L2N.CX X.prog X.w) k fI fd ps (spXi C f))
    (hr : Room (k + 1) X.A) (hb : Binds X.K fd ps []) (hg : Gl X x) (hm : X.mg x = some (.ref C)) (ha : PA X [e] ta) (hdb : (x == ("__debug__" : Str)) = false := by decide)
    (he : starEach [e] X.env = (false, eval e X.env) :: starEach [] X.env := by rfl) (hpl : (backTo pos (starEach [] X.env)).any (·.1) = false := by rfl) : L2N.PMk X (.Call (.Name x p) [e] [] pos) (tMkX C f ta) := by
  intro pins s σ H Q I h
  refine wpAny_Call_Name_kw (ld_glob I hg hm ?_ hdb)
  refine PySem.W.callWith_K (h₀ := X.base) I.ok.mod.kin T.kC (thn (ha.run pos pins s σ H _ I h) fun us s1 ⟨vs, H1, I1, r1, v, ev, q1⟩ => ⟨I1.kIn, ?_⟩) he hpl
  subst ev
  cases r1 with
  | @cons _ u _ us' rv rn =>
  cases rn
  show wpAny _ _ (call (.ref C) [u]) _ _ _
  obtain ⟨nm, N', qn, bs, bm, hdct, sn, sub, ab, col, dd, k0, k1, k2, k3, k5, hC, hT⟩ := PySem.W.excInit_of I1.kIn T.ini
  obtain ⟨hp, g, dr, tk, os⟩ := s1
  have hsz : hp.objs.size ≤ hp.objs.size + 1 := Nat.le_succ _
  have hn : H1 (hp.objs.size + 1) = none := I1.hok.fresh hsz
  have kk : ∀ b o, hp.get? b = some o → ((hp.push (PySem.W.kdv_tup [u])).push (PySem.HandSPX.excO C hp.objs.size)).get? b = some o := fun b o z => Heap.get?_push_of_some _ (Heap.get?_push_of_some _ z)
  have hget : ((hp.push (PySem.W.kdv_tup [u])).push (PySem.HandSPX.excO C hp.objs.size)).get? (hp.objs.size + 1) = some (PySem.HandSPX.excO C hp.objs.size) := by heap_get
  have I2 : Inv X pins σ (upd H1 (hp.objs.size + 1) (exo (hp.objs.size + 1) C none)) ⟨(hp.push (PySem.W.kdv_tup [u])).push (PySem.HandSPX.excO C hp.objs.size), g, dr, tk, os⟩ :=
    I1.laid (t' := tk) (a := hp.objs.size + 1) (o := exo (hp.objs.size + 1) C none) (h' := (hp.push (PySem.W.kdv_tup [u])).push (PySem.HandSPX.excO C hp.objs.size)) kk hsz (exo_ok hget)
  have r2 : Vals [V.ref (hp.objs.size + 1), v] [Value.ref (hp.objs.size + 1), u] := .cons rfl (.cons rv .nil)
  have hq : spXi C f [V.ref (hp.objs.size + 1), v] (upd H1 (hp.objs.size + 1) (exo (hp.objs.size + 1) C none)) (fun z H2 => z = .non ∧ ∃ d : Addr, H2 (hp.objs.size + 1) = some (exo (hp.objs.size + 1) C (some d)) ∧ H2 d = some (exd d [(f, v)]) ∧ H1 d = none ∧ Q (.ref C) (some d) (upd (del H2 (hp.objs.size + 1)) d (.xd [(f, v)]))) (fun _ _ _ => False) := by
    refine ⟨_, v, rfl, upd_same, fun dx n ne => ⟨rfl, dx, upd_same, by rw [upd_ne ne, upd_same], by rw [upd_ne ne] at n; exact n, ?_⟩⟩
    have n1 : H1 dx = none := by rw [upd_ne ne] at n; exact n
    have eH : upd (del (upd (upd (upd H1 (hp.objs.size + 1) (exo (hp.objs.size + 1) C none)) dx (exd dx [(f, v)])) (hp.objs.size + 1) (exo (hp.objs.size + 1) C (some dx))) (hp.objs.size + 1)) dx (.xd [(f, v)]) = upd H1 dx (.xd [(f, v)]) := by
      funext c
      by_cases h1 : c = dx
      · rw [h1, upd_same, upd_same]
      · rw [upd_ne h1, upd_ne h1]
        by_cases h2 : c = hp.objs.size + 1
        · rw [h2, del_same, hn]
        · rw [del_ne h2, upd_ne h2, upd_ne h1, upd_ne h2]
    rw [eH]
    exact q1 dx n1
  have hl : [Value.ref (hp.objs.size + 1), u].length = ps.length := by rw [← r2.length]; exact F1.len _ _ _ _ hq
  refine wpAny_call (PySem.HandSPX.call_own (xF b) hT hC (PySem.W.looks_findIn I1.kIn iC) (fun self => PySem.W.bind_fn I1.kIn self tI) (by show 1 ≤ sizeLine; rw [sizeLine_eq]; omega)
    (codeAny_mono (F1.run _ X.stack _ _ ⟨[Value.ref (hp.objs.size + 1), u], []⟩ [Value.ref (hp.objs.size + 1), u] _ _ (fun _ _ _ => False) (hr.make C [u] []) (I2.env0.make C [u] []) (hb _ [Value.ref (hp.objs.size + 1), u] I2.kIn hl) r2 hq) fun r s' hq' => ?_))
  cases r with
  | error er => exact passes9 pins σ _ _ er s' I2 hq'
  | ok fl =>
    cases fl with
    | ret z =>
      obtain ⟨w, H2, os2, bare2, un2, hok2, rz, ez, d, ea, ed, hd1, q2⟩ := hq'
      subst ez
      obtain ⟨h2, g2, d2, t2, os'⟩ := s'
      refine ⟨rz, ?_⟩
      obtain ⟨t0, G, J, kG, ge, hoe, na⟩ := mk_end0 (d2 := d2) (t2 := t2) I1 hsz kk un2 hok2 os2 bare2 ea ed hd1
      exact ⟨hp.objs.size + 1, _, _, ⟨G, g2, d2, t2, os'⟩, _, .ref C, some d, rfl, J, kG, ge, hoe, ⟨rfl, rfl, fun vs z => by cases z; rfl⟩, rfl, rfl, na, rfl, bare2, raises_own T.exC T.tyC, q2⟩
    | next => exact False.elim hq'
    | brk => exact False.elim hq'
    | cont => exact False.elim hq'
end
/-- raise C(e) -/
def sRaise (c : Nat) (g : EX) : SX := fun ρ M => bndS (g ρ M) ρ fun v M1 => match v with
  | .d x => some (.ex c [x], ρ, M1)
  | .r _ => none
/-- raise C() -/
def sRaise0 (c : Nat) : SX := fun ρ M => some (.ex c [], ρ, M)
/-- all that is asked of an error's class with one field -/
structure ExF (K : PySem.W.Frag) (C fI : Addr) (b : Bool) (f : Str) : Prop where
  g : OexG K C b
  no : PySem.W.findIn K (.ref C) f = some none
  iC : PySem.W.findIn K (.ref C) "__init__" = some (some (.ref fI))
  tI : PySem.W.typeIn K (.ref fI) = some (.type "function")
section
variable {X : Cx} {T : Tb} {W : WX} {x : Str} {fI : Addr} {c k : Nat} {fd : FuncData} {ps : List Str} {b : Bool} {f : Str} {e : Expr} {g : EX} {p pos pos2 : Pos}
theorem ds_raise (hc : X.calm = true) (tk : L2N.Takes X W) (hT : T.fn c = [f]) (E : ExF X.K (T.ca c) fI b f) (F1 : FnOk X.prog X.w X.K X.mg X.base (L2N.CX X.prog X.w) k fI fd ps (spXi (T.ca c) f)) (hr : Room (k + 1) X.A) (hb : Binds X.K fd ps []) (hm : X.mg x = some (.ref (T.ca c))) (ha : PE X e (tE X.K T W g))
    (hg : Gl X x := by rfl) (hdb : (x == ("__debug__" : Str)) = false := by decide) (he : starEach [e] X.env = (false, eval e X.env) :: starEach [] X.env := by rfl) (hpl : (backTo pos (starEach [] X.env)).any (·.1) = false := by rfl) :
    PS X (.Raise (some (.Call (.Name x p) [e] [] pos)) none pos2) (tS X.K T W (sRaise c g)) := by
  refine psImp (L2N.ps_raise hc tk (pmk_x E.g E.iC E.tI F1 hr hb hg hm (pa_cons ha pa_nil he) hdb he hpl)) fun D σ H h => ?_
  obtain ⟨ρ, M, F, α, L, R, h⟩ := tS_to h
  refine rd_of L R (atS_bind L h fun v M1 u H1 F1 α1 s1 R1 r1 h1 => ?_)
  refine ⟨u, rfl, fun d hd => ?_⟩
  cases v with
  | r _ => obtain ⟨q, e, _⟩ := h1; cases e
  | d y =>
    obtain ⟨q, e, po⟩ := h1
    cases e
    refine po (some d) σ _ _ α1 (((L.mono s1)).mono (step_new R1 hd)) (R1.new hd) (step_new R1 hd) (.inr ⟨d, u, y, f, rfl, rfl, hT, upd_same, ?_⟩)
    exact Rep.mono (same_new (R1.freeF hd)) r1
end
def exfB (K : PySem.W.Frag) (C fI : Addr) (b : Bool) (f : Str) : Bool := (PySem.W.excInitIn K C (xBm b) (xNew b) && (PySem.W.excOver K C (xBm b) && PySem.W.hasDictIn K C)) &&
  ((He.eqO (PySem.W.findIn K (.ref C) "__setattr__") (some (some (.builtin "object.__setattr__"))) && (decide (PySem.W.subIn K (.ref C) (.type "BaseException") = some true) && (decide (PySem.W.typeIn K (.ref C) = some (.type "type")) && PySem.W.keepIn K (.ref C)))) &&
  (He.eqO (PySem.W.findIn K (.ref C) f) (some none) && (He.eqO (PySem.W.findIn K (.ref C) "__init__") (some (some (.ref fI))) && decide (PySem.W.typeIn K (.ref fI) = some (.type "function")))))
theorem exf_ok {K : PySem.W.Frag} {C fI : Addr} {b : Bool} {f : Str} (h : exfB K C fI b f = true) : ExF K C fI b f := by
  obtain ⟨h1, h⟩ := He.ba h
  obtain ⟨a1, h1⟩ := He.ba h1
  obtain ⟨a2, a3⟩ := He.ba h1
  obtain ⟨h2, h⟩ := He.ba h
  obtain ⟨a4, h2⟩ := He.ba h2
  obtain ⟨a5, h2⟩ := He.ba h2
  obtain ⟨a6, a7⟩ := He.ba h2
  obtain ⟨a8, h⟩ := He.ba h
  obtain ⟨a9, a10⟩ := He.ba h
  exact ⟨⟨a1, a2, a3, He.eqO_ok a4, of_decide_eq_true a5, of_decide_eq_true a6, a7⟩, He.eqO_ok a8, He.eqO_ok a9, of_decide_eq_true a10⟩
def ex0B (K : PySem.W.Frag) (C : Addr) (b : Bool) : Bool := PySem.W.excIn K C (xBm b) (xNew b) && (decide (PySem.W.subIn K (.ref C) (.type "BaseException") = some true) && (decide (PySem.W.typeIn K (.ref C) = some (.type "type")) && PySem.W.keepIn K (.ref C)))
def cnC (c : Nat) : Str := [("WrongValue" : Str), ("NoAnswer" : Str), ("InvalidText" : Str), ("InvalidNumber" : Str), ("InvalidHour" : Str), ("InvalidIndex" : Str), ("NotHours" : Str), ("OtherClock" : Str), ("InvalidHours" : Str), ("TooMany" : Str), ("Empty" : Str), ("Broken" : Str), ("NothingToUndo" : Str), ("Hours" : Str), ("Rule" : Str), ("Dial" : Str), ("Attempt" : Str)].getD c ""
def fnC (c : Nat) : List Str := [[], [], [("given" : Str)], [("given" : Str)], [("given" : Str)], [("given" : Str)], [("given" : Str)], [("given" : Str)], [("index" : Str)], [("number" : Str)], [], [("index" : Str)], [], [("many" : Str), ("held" : Str)], [("numbers" : Str)], [("held" : Str), ("vows" : Str), ("log" : Str)], [("dial" : Str), ("held" : Str), ("vows" : Str), ("log" : Str)]].getD c ([] : List Str)
abbrev TTC (K : PySem.W.Frag) : Tb := ⟨fun c => He.ga K (cnC c), fnC, [], none, []⟩
/-- the class c is c2 or stands over it: numbers of the program's errors -/
def subC (c c2 : Nat) : Bool := c == c2 || (c2 == 0 && decide (2 ≤ c ∧ c ≤ 8)) || (c2 == 1 && decide (9 ≤ c ∧ c ≤ 12))
def exkB1 (K : PySem.W.Frag) (D : Addr) : Bool := ((PySem.W.clsIn K D).isSome && (He.eqO (PySem.W.findIn K (.ref D) "__getattribute__") (some (some (.builtin "BaseException.__getattribute__"))) && He.eqO (PySem.W.findIn K (.ref D) "__getattr__") (some none))) &&
  ((decide (PySem.W.subIn K (.ref D) (.type "BaseException") = some true) && (He.eqO (PySem.W.findIn K (.ref D) "__class__") (some (some (.builtin "object.__class__"))) && He.eqO (PySem.W.specialIn K (.builtin "object.__class__") "__get__") (some (some (.builtin "getset_descriptor.__get__"))))) &&
  (decide (PySem.W.takesIn K (.builtin "object.__class__") = some true) && (decide (PySem.W.mroIn K D (.type "object") = some true) && PySem.W.hasDictIn K D)))
/-- of all classes es together -/
def exkB (K : PySem.W.Frag) (es : List Nat) : Bool := es.all fun c => (exkB1 K (He.ga K (cnC c)) && (fnC c).all fun n => He.eqO (PySem.W.findIn K (.ref (He.ga K (cnC c))) n) (some none)) &&
  ([0, 1] ++ es).all fun c2 => decide (PySem.W.exmOne K (.ref (He.ga K (cnC c))) (.ref (He.ga K (cnC c2))) = some (subC c c2)) && decide (PySem.W.kitOne K (.ref (He.ga K (cnC c))) (.ref (He.ga K (cnC c2))) = some (subC c c2))
end Mi
namespace Mi
open PySem PySem.Spec PyProof.Rows L2
def cliB (K : PySem.W.Frag) (C : Addr) : Bool := He.eqO (PySem.W.findIn K (.ref C) "__eq__") (some (some (.builtin "object.__eq__"))) && (He.eqO (PySem.W.findIn K (.ref C) "__ne__") (some (some (.builtin "object.__ne__"))) && decide (PySem.W.mroIn K C (.type "object") = some true))
end Mi
namespace Mi
open PySem PySem.Spec PyProof.Rows L2
inductive Cf where
  | cls (x : Str)
  | noat (x f : Str)
  | meth (x m : Str)
  | mk (x : Str)
  | prop (x f : Str)
  | clf (x : Str)
  | bint (x : Str) (nm : String)
  | isi (xs : List (Str × Bool)) (x : Str)
  | tup0 (p : Str × Option Str)
  | cm (x m : Str)
  | isx (xs : List Str) (b : String)
  | exf (x f : Str) (b : Bool)
  | ex0 (x : Str) (b : Bool)
  | exk (es : List Nat)
  | tabs (tf : List He.Defn)
  | cli (x : Str)
def rec1 (K : PySem.W.Frag) (p g : Addr) (T : String) : Bool := match PySem.W.recIn K p T with
  | some (.ref a :: _) => decide (a = g)
  | _ => false
def isiB (K : PySem.W.Frag) (xs : List (Str × Bool)) (x : Str) : Bool := (tyNames.all fun a => decide (PySem.W.kitOne K (.type a) (.ref (He.ga K x)) = some false)) &&
  ((xs.all fun y => (He.Fa.cls y.1).ok K && (He.eqO (PySem.W.findIn K (.ref (He.ga K y.1)) "__class__") (some (some (.builtin "object.__class__"))) && (decide (PySem.W.mroIn K (He.ga K y.1) (.type "object") = some true) && decide (PySem.W.kitOne K (.ref (He.ga K y.1)) (.ref (He.ga K x)) = some y.2)))) &&
    (He.eqO (PySem.W.specialIn K (.builtin "object.__class__") "__get__") (some (some (.builtin "getset_descriptor.__get__"))) && decide (PySem.W.takesIn K (.builtin "object.__class__") = some true)))
def tup0B (K : PySem.W.Frag) (p : Str × Option Str) : Bool := match K.lookup (He.dflAt p 0 K) with
  | some ⟨.type c, _, .seq its _, _⟩ => decide (c = "tuple") && decide (its.size = 0)
  | _ => false
def cmB (K : PySem.W.Frag) (x m : Str) : Bool := PySem.W.readsIn K (He.ga K x) (.type "type") && ((match PySem.W.findCls K (.ref (He.ga K x)) (.type "type") m with
    | some (.get (.builtin g) (.ref p) .none (.ref D)) => decide (g = "classmethod.__get__") && (decide (p = He.ma K (He.ga K x) m) && decide (D = He.ga K x))
    | _ => false) && (rec1 K (He.ma K (He.ga K x) m) (fA K (x, some m)) "classmethod" && PySem.W.fnIn K (fA K (x, some m))))
def isxB (K : PySem.W.Frag) (xs : List Str) (b : String) : Bool :=
  ((xs.all fun y => (He.Fa.cls y).ok K && (He.eqO (PySem.W.findIn K (.ref (He.ga K y)) "__class__") (some (some (.builtin "object.__class__"))) && (decide (PySem.W.mroIn K (He.ga K y) (.type "object") = some true) && decide (PySem.W.kitOne K (.ref (He.ga K y)) (.type b) = some false)))) &&
    (He.eqO (PySem.W.specialIn K (.builtin "object.__class__") "__get__") (some (some (.builtin "getset_descriptor.__get__"))) && decide (PySem.W.takesIn K (.builtin "object.__class__") = some true)))
def Cf.ok (K : PySem.W.Frag) : Cf → Bool
  | .cls x => (He.Fa.cls x).ok K
  | .noat x f => (He.Fa.noat x f).ok K
  | .meth x m => He.eqO (PySem.W.findIn K (.ref (He.ga K x)) m) (some (some (.ref (fA K (x, some m))))) && (PySem.W.isFn K (.ref (fA K (x, some m))) && PySem.W.keepIn K (.ref (fA K (x, some m))))
  | .mk x => PySem.W.makesIn K (He.ga K x) && (He.eqO (PySem.W.findIn K (.ref (He.ga K x)) "__init__") (some (some (.ref (fA K (x, some "__init__"))))) && (PySem.W.isFn K (.ref (fA K (x, some "__init__"))) && PySem.W.keepIn K (.ref (He.ga K x))))
  | .prop x f => He.eqO (PySem.W.findIn K (.ref (He.ga K x)) f) (some (some (.ref (He.ma K (He.ga K x) f)))) && (He.eqO (PySem.W.specialIn K (.ref (He.ma K (He.ga K x) f)) "__get__") (some (some (.builtin "property.__get__"))) &&
      (decide (PySem.W.takesIn K (.ref (He.ma K (He.ga K x) f)) = some true) && rec1 K (He.ma K (He.ga K x) f) (fA K (x, some f)) "property"))
  | .clf x => clfB K (He.ga K x)
  | .bint x nm => bintB K (He.ga K x) nm
  | .isi xs x => isiB K xs x
  | .tup0 p => tup0B K p
  | .cm x m => cmB K x m
  | .isx xs b => isxB K xs b
  | .exf x f b => exfB K (He.ga K x) (fA K (x, some "__init__")) b f
  | .ex0 x b => ex0B K (He.ga K x) b
  | .exk es => exkB K es
  | .tabs tf => decide (tf.map fun p => (He.cT K p).2).Nodup
  | .cli x => cliB K (He.ga K x)
section
variable {K : PySem.W.Frag}
theorem cf_exf {x f : Str} {b : Bool} (h : (Cf.exf x f b).ok K = true) : ExF K (He.ga K x) (fA K (x, some "__init__")) b f := exf_ok h
end
section
variable {fa : List He.Fa} {fn : List He.DefD} {ts : List He.Tab} {w : World} {K : PySem.W.Frag} {mg : Str → Option Value} {exT : PySem.W.Frag → Bool} {cl : List Cf}
def exC (exT : PySem.W.Frag → Bool) (cl : List Cf) (K : PySem.W.Frag) : Bool := exT K && cl.all fun f => f.ok K
theorem Ev.cf (E : Ev fa fn ts (exC exT cl) w K mg) (i : Nat) {f : Cf} (h : cl[i]? = some f := by rfl) : f.ok K = true :=
  List.all_eq_true.mp (He.ba (show (exT K && cl.all fun f => f.ok K) = true from E.x)).2 f (List.mem_of_getElem? h)
theorem Ev.xt (E : Ev fa fn ts (exC exT cl) w K mg) : exT K = true := (He.ba (show (exT K && cl.all fun f => f.ok K) = true from E.x)).1
end
end Mi
namespace Mi
open PySem PySem.Spec PyProof.Rows L2
open PySem.W HandSHeadRun
end Mi
namespace Mi
open PySem PySem.Spec PyProof.Rows L2
end Mi
namespace Hd
open PySem PySem.Spec PyProof.Rows L2 Mi
def top (i : Nat) : Stmt := PySem.Challenge.pw_hoursums_k62_whole_sizes_certified.main.body.getD i (.Pass ⟨0, 0, 0, 0⟩)
def d0 : He.DefD := ⟨("InvalidNumber", some "__init__"), "__init__", "InvalidNumber.__init__", defArgs (inClass (top 6) 0), defBody (inClass (top 6) 0), defScope (inClass (top 6) 0), [], []⟩
def d1 : He.DefD := ⟨("TooMany", some "__init__"), "__init__", "TooMany.__init__", defArgs (inClass (top 7) 0), defBody (inClass (top 7) 0), defScope (inClass (top 7) 0), [], []⟩
def d2 : He.DefD := ⟨("is_integer_values", none), "is_integer", "is_integer", defArgs (top 9), defBody (top 9), defScope (top 9), [], []⟩
def d3 : He.DefD := ⟨("is_between", none), "is_between", "is_between", defArgs (top 11), defBody (top 11), defScope (top 11), [], []⟩
def d4 : He.DefD := ⟨("check_clock", none), "check_clock", "check_clock", defArgs (top 12), defBody (top 12), defScope (top 12), [], []⟩
def d5 : He.DefD := ⟨("check_size", none), "check_size", "check_size", defArgs (top 13), defBody (top 13), defScope (top 13), [], []⟩
def d6 : He.DefD := ⟨("check_times", none), "check_times", "check_times", defArgs (top 14), defBody (top 14), defScope (top 14), [], []⟩
def d7 : He.DefD := ⟨("divisors_of", none), "divisors_of", "divisors_of", defArgs (top 15), defBody (top 15), defScope (top 15), [], []⟩
def d8 : He.DefD := ⟨("divided_up_values", none), "divided_up", "divided_up", defArgs (top 16), defBody (top 16), defScope (top 16), [], []⟩
def d9 : He.DefD := ⟨("least_divisor", none), "least_divisor", "least_divisor", defArgs (top 19), defBody (top 19), defScope (top 19), [], []⟩
def d10 : He.DefD := ⟨("fold_divisor", none), "fold_divisor", "fold_divisor", defArgs (top 20), defBody (top 20), defScope (top 20), [], []⟩
def d11 : He.DefD := ⟨("reach_divisor", none), "reach_divisor", "reach_divisor", defArgs (top 21), defBody (top 21), defScope (top 21), [], []⟩
def d12 : He.DefD := ⟨("apart_divisor", none), "apart_divisor", "apart_divisor", defArgs (top 22), defBody (top 22), defScope (top 22), [], []⟩
def d13 : He.DefD := ⟨("check_sizes", none), "check_sizes", "check_sizes", defArgs (top 23), defBody (top 23), defScope (top 23), [], []⟩
def d14 : He.DefD := ⟨("check_fold", none), "check_fold", "check_fold", defArgs (top 24), defBody (top 24), defScope (top 24), [], []⟩
def d15 : He.DefD := ⟨("check_asked", none), "check_asked", "check_asked", defArgs (top 25), defBody (top 25), defScope (top 25), [], []⟩
def d16 : He.DefD := ⟨("certify_least", none), "certify_least", "certify_least", defArgs (top 27), defBody (top 27), defScope (top 27), [], []⟩
def d17 : He.DefD := ⟨("certify_fold", none), "certify_fold", "certify_fold", defArgs (top 28), defBody (top 28), defScope (top 28), [], []⟩
def d18 : He.DefD := ⟨("certify_reach", none), "certify_reach", "certify_reach", defArgs (top 29), defBody (top 29), defScope (top 29), [], []⟩
def d19 : He.DefD := ⟨("certify_apart", none), "certify_apart", "certify_apart", defArgs (top 30), defBody (top 30), defScope (top 30), [], []⟩
def d20 : He.DefD := ⟨("is_integer_checker", none), "is_integer", "is_integer", defArgs (top 34), defBody (top 34), defScope (top 34), [], []⟩
def d21 : He.DefD := ⟨("is_number", none), "is_number", "is_number", defArgs (top 36), defBody (top 36), defScope (top 36), [], []⟩
def d22 : He.DefD := ⟨("accepts", none), "accepts", "accepts", defArgs (top 37), defBody (top 37), defScope (top 37), [], []⟩
def d23 : He.DefD := ⟨("are_sizes", none), "are_sizes", "are_sizes", defArgs (top 38), defBody (top 38), defScope (top 38), [], []⟩
def d24 : He.DefD := ⟨("divided_up_checker", none), "divided_up", "divided_up", defArgs (top 39), defBody (top 39), defScope (top 39), [], []⟩
def d25 : He.DefD := ⟨("number_at", none), "number_at", "number_at", defArgs (top 41), defBody (top 41), defScope (top 41), [], []⟩
def d26 : He.DefD := ⟨("is_told", none), "is_told", "is_told", defArgs (top 42), defBody (top 42), defScope (top 42), [], []⟩
def d27 : He.DefD := ⟨("number_of", none), "number_of", "number_of", defArgs (top 43), defBody (top 43), defScope (top 43), [], []⟩
def d28 : He.DefD := ⟨("set_of", none), "set_of", "set_of", defArgs (top 44), defBody (top 44), defScope (top 44), [], []⟩
def d29 : He.DefD := ⟨("sums_of", none), "sums_of", "sums_of", defArgs (top 45), defBody (top 45), defScope (top 45), [], []⟩
def d30 : He.DefD := ⟨("fewest_of", none), "fewest_of", "fewest_of", defArgs (top 46), defBody (top 46), defScope (top 46), [], []⟩
def d31 : He.DefD := ⟨("is_rising_row", none), "is_rising_row", "is_rising_row", defArgs (top 47), defBody (top 47), defScope (top 47), [], []⟩
def d32 : He.DefD := ⟨("is_about_hour", none), "is_about_hour", "is_about_hour", defArgs (top 48), defBody (top 48), defScope (top 48), [], []⟩
def d33 : He.DefD := ⟨("is_about_sets", none), "is_about_sets", "is_about_sets", defArgs (top 49), defBody (top 49), defScope (top 49), [], []⟩
def d34 : He.DefD := ⟨("is_outside", none), "is_outside", "is_outside", defArgs (top 50), defBody (top 50), defScope (top 50), [], []⟩
def d35 : He.DefD := ⟨("is_greatest", none), "is_greatest", "is_greatest", defArgs (top 51), defBody (top 51), defScope (top 51), [], []⟩
def d36 : He.DefD := ⟨("is_unsolved", none), "is_unsolved", "is_unsolved", defArgs (top 52), defBody (top 52), defScope (top 52), [], []⟩
def d37 : He.DefD := ⟨("_law_well", none), "_law_well", "_law_well", defArgs (top 54), defBody (top 54), defScope (top 54), [], []⟩
def d38 : He.DefD := ⟨("_law_draw", none), "_law_draw", "_law_draw", defArgs (top 55), defBody (top 55), defScope (top 55), [], []⟩
def d39 : He.DefD := ⟨("_law_is", none), "_law_is", "_law_is", defArgs (top 56), defBody (top 56), defScope (top 56), [], []⟩
def d40 : He.DefD := ⟨("_law_divisors", none), "_law_divisors", "_law_divisors", defArgs (top 57), defBody (top 57), defScope (top 57), [], []⟩
def d41 : He.DefD := ⟨("_law_some_great", none), "_law_some_great", "_law_some_great", defArgs (top 58), defBody (top 58), defScope (top 58), [], []⟩
def d42 : He.DefD := ⟨("_law_some_size", none), "_law_some_size", "_law_some_size", defArgs (top 59), defBody (top 59), defScope (top 59), [], []⟩
def d43 : He.DefD := ⟨("_law_some_times", none), "_law_some_times", "_law_some_times", defArgs (top 60), defBody (top 60), defScope (top 60), [], []⟩
def d44 : He.DefD := ⟨("_law_same", none), "_law_same", "_law_same", defArgs (top 61), defBody (top 61), defScope (top 61), [], []⟩
def d45 : He.DefD := ⟨("_law_is_pair", none), "_law_is_pair", "_law_is_pair", defArgs (top 62), defBody (top 62), defScope (top 62), [], []⟩
def d46 : He.DefD := ⟨("_law_up", none), "_law_up", "_law_up", defArgs (top 63), defBody (top 63), defScope (top 63), [], []⟩
def d47 : He.DefD := ⟨("_law_numbers", none), "_law_numbers", "_law_numbers", defArgs (top 64), defBody (top 64), defScope (top 64), [], []⟩
def d48 : He.DefD := ⟨("_law_made_right", none), "_law_made_right", "_law_made_right", defArgs (top 65), defBody (top 65), defScope (top 65), [], []⟩
def d49 : He.DefD := ⟨("_law_right", none), "_law_right", "_law_right", defArgs (top 66), defBody (top 66), defScope (top 66), [], []⟩
def d50 : He.DefD := ⟨("law", none), "law", "law", defArgs (top 67), defBody (top 67), defScope (top 67), [], []⟩
def tf : List He.Defn := []
abbrev TT (K : PySem.W.Frag) : Tb := TTC K
def ts : List He.Tab := [(fun K => He.ga K "SIZES", [("least" : Str), ("fold" : Str), ("reach" : Str), ("apart" : Str), ("sums" : Str), ("reached" : Str), ("never" : Str), ("within" : Str), ("unsolved" : Str), ("tiling" : Str)])]
def exT (K : PySem.W.Frag) : Bool := He.valsB K (He.ga K "SIZES") [("least", He.Dv.int (5)), ("fold", He.Dv.int (5)), ("reach", He.Dv.int (4)), ("apart", He.Dv.int (4)), ("sums", He.Dv.int (4)), ("reached", He.Dv.int (4)), ("never", He.Dv.int (3)), ("within", He.Dv.int (4)), ("unsolved", He.Dv.int (3)), ("tiling", He.Dv.int (3))]
def cl_0 : List Cf := [.exf "InvalidNumber" "given" true, .exf "TooMany" "number" false]
def cl : List Cf := cl_0
abbrev ex : PySem.W.Frag → Bool := exC exT cl
def fn_0 : List He.DefD := [d0, d1, d2, d3, d4, d5, d6, d7, d8, d9, d10, d11, d12, d13, d14, d15, d16, d17, d18, d19, d20, d21, d22, d23, d24, d25, d26, d27, d28, d29, d30, d31, d32, d33, d34, d35, d36, d37, d38, d39]
def fn_1 : List He.DefD := [d40, d41, d42, d43, d44, d45, d46, d47, d48, d49, d50]
def fn : List He.DefD := fn_0 ++ fn_1
def fa_0 : List He.Fa := [.free "isinstance", .free "int", .free "bool", .glo "is_integer_values", .glo "InvalidNumber", .glo "TooMany", .glo "is_between", .int "MOST_TIMES" 1000000000000000000000000000000, .glo "divisors_of", .glo "divided_up_values", .free "min", .int "MOST_CLOCK" 1000000000, .glo "check_clock", .glo "check_size", .glo "check_times", .glo "check_sizes", .glo "least_divisor", .glo "check_fold", .glo "fold_divisor", .glo "check_asked", .glo "reach_divisor", .glo "apart_divisor", .glo "is_integer_checker", .free "tuple", .free "len", .free "str", .glo "SIZES", .glo "are_sizes", .glo "is_told", .glo "is_about_hour", .glo "is_about_sets", .glo "is_number", .glo "divided_up_checker", .glo "number_at", .free "all", .str "DIGITS" "0123456789", .glo "number_of", .int "MOST_HOURS" 240, .glo "sums_of", .free "enumerate"]
def fa_1 : List He.Fa := [.glo "set_of", .glo "is_rising_row", .free "sum", .glo "fewest_of", .free "sorted", .glo "is_greatest", .glo "is_unsolved", .free "any", .free "range", .free "zip", .glo "is_outside", .free "abs", .free "set", .glo "_law_draw", .free "max", .glo "_law_same", .glo "accepts", .glo "_law_up", .glo "_law_is_pair", .glo "_law_is", .glo "_law_some_great", .glo "_law_some_times", .glo "_law_divisors", .glo "_law_some_size", .glo "_law_numbers", .glo "certify_least", .glo "_law_made_right", .glo "certify_fold", .glo "certify_reach", .glo "certify_apart", .glo "_law_well", .glo "_law_right", .glo "law"]
def fa : List He.Fa := fa_0 ++ fa_1
def loose_0 : List PySem.Str := [("MOST_CLOCK" : PySem.Str), ("MOST_HOURS" : PySem.Str), ("MOST_TIMES" : PySem.Str), ("WrongValue" : PySem.Str), ("NoAnswer" : PySem.Str), ("InvalidNumber" : PySem.Str), ("TooMany" : PySem.Str), ("is_integer" : PySem.Str), ("is_integer_values" : PySem.Str), ("is_between" : PySem.Str), ("check_clock" : PySem.Str), ("check_size" : PySem.Str), ("check_times" : PySem.Str), ("divisors_of" : PySem.Str), ("divided_up" : PySem.Str), ("divided_up_values" : PySem.Str), ("least_divisor" : PySem.Str), ("fold_divisor" : PySem.Str), ("reach_divisor" : PySem.Str), ("apart_divisor" : PySem.Str), ("check_sizes" : PySem.Str), ("check_fold" : PySem.Str), ("check_asked" : PySem.Str), ("certify_least" : PySem.Str), ("certify_fold" : PySem.Str), ("certify_reach" : PySem.Str), ("certify_apart" : PySem.Str), ("DIGITS" : PySem.Str), ("SIZES" : PySem.Str), ("is_integer_checker" : PySem.Str), ("is_number" : PySem.Str), ("accepts" : PySem.Str), ("are_sizes" : PySem.Str), ("divided_up_checker" : PySem.Str), ("number_at" : PySem.Str), ("is_told" : PySem.Str), ("number_of" : PySem.Str), ("set_of" : PySem.Str), ("sums_of" : PySem.Str), ("fewest_of" : PySem.Str)]
def loose_1 : List PySem.Str := [("is_rising_row" : PySem.Str), ("is_about_hour" : PySem.Str), ("is_about_sets" : PySem.Str), ("is_outside" : PySem.Str), ("is_greatest" : PySem.Str), ("is_unsolved" : PySem.Str), ("_law_well" : PySem.Str), ("_law_draw" : PySem.Str), ("_law_is" : PySem.Str), ("_law_divisors" : PySem.Str), ("_law_some_great" : PySem.Str), ("_law_some_size" : PySem.Str), ("_law_some_times" : PySem.Str), ("_law_same" : PySem.Str), ("_law_is_pair" : PySem.Str), ("_law_up" : PySem.Str), ("_law_numbers" : PySem.Str), ("_law_made_right" : PySem.Str), ("_law_right" : PySem.Str)]
def loose : List PySem.Str := loose_0 ++ loose_1
abbrev R : PySem.W.OpenRow := PySem.W.OpenLaw.row PySem.Challenge.rw_hoursums_k62_whole_sizes_certified
abbrev hk : PySem.W.Hook := hookM 5 fa fn ts tf ex
def ob (s : PySem.W.SharedT) : AlM := obsM 5 fa fn ts tf ex (HandSHeadRun.getT s)
theorem ob_eq (s : PySem.W.SharedT) : ob s = hk.obs s.abs := obsM_eq (HandSHeadRun.getT_eq s)
theorem run_f (w : World) : HandSHeadRun.RunEq R (PySem.W.view R.prog [67]) hk ob 8000 loose (w.withFollow "special-get-raises" false) := by
  intro os
  kernel_rfl
theorem run_t (w : World) : HandSHeadRun.RunEq R (PySem.W.view R.prog [67]) hk ob 8000 loose (w.withFollow "special-get-raises" true) := by
  intro os
  kernel_rfl
theorem run (w : World) : HandSHeadRun.RunEq R (PySem.W.view R.prog [67]) hk ob 8000 loose w := by
  exact PySem.W.byRow2 "special-get-raises" (P := fun w => HandSHeadRun.RunEq R (PySem.W.view R.prog [67]) hk ob 8000 loose w) run_f run_t w
end Hd
namespace Mi
open PySem PySem.Spec PyProof.Rows L2
def insU (x : Int) : List Int → List Int
  | [] => [x]
  | y :: ys => if x < y then x :: y :: ys else if x = y then y :: ys else y :: insU x ys
def srtU (ns : List Int) : List Int := ns.foldr insU []
theorem mem_insU {x z : Int} : ∀ {l : List Int}, z ∈ insU x l ↔ z = x ∨ z ∈ l
  | [] => by simp [insU]
  | y :: ys => by
    unfold insU
    split
    · simp
    · split
      · rename_i h
        subst h
        simp
      · simp only [List.mem_cons, mem_insU (l := ys)]
        constructor <;> (intro h; rcases h with h | h | h <;> simp [h])
theorem insU_asc {x : Int} : ∀ {l : List Int}, l.Pairwise (· < ·) → (insU x l).Pairwise (· < ·)
  | [], _ => by simp [insU]
  | y :: ys, h => by
    unfold insU
    rw [List.pairwise_cons] at h
    split
    · rename_i hx
      refine List.pairwise_cons.mpr ⟨fun z hz => ?_, List.pairwise_cons.mpr h⟩
      rcases List.mem_cons.mp hz with rfl | hz
      · exact hx
      · have := h.1 z hz
        omega
    · split
      · exact List.pairwise_cons.mpr h
      · refine List.pairwise_cons.mpr ⟨fun z hz => ?_, insU_asc h.2⟩
        rcases mem_insU.mp hz with rfl | hz
        · omega
        · exact h.1 z hz
theorem mem_srtU {z : Int} : ∀ {ns : List Int}, z ∈ srtU ns ↔ z ∈ ns
  | [] => by simp [srtU]
  | n :: ns => by
    show z ∈ insU n (srtU ns) ↔ _
    rw [mem_insU, mem_srtU (ns := ns), List.mem_cons]
theorem srtU_asc : ∀ ns : List Int, (srtU ns).Pairwise (· < ·)
  | [] => List.Pairwise.nil
  | n :: ns => insU_asc (srtU_asc ns)
theorem asc_nd {a : List Int} (h : a.Pairwise (· < ·)) : a.Nodup := h.imp fun {x y} q => Int.ne_of_lt q
theorem asc_uniq {a b : List Int} (ha : a.Pairwise (· < ·)) (hb : b.Pairwise (· < ·)) (h : ∀ k, k ∈ a ↔ k ∈ b) : a = b :=
  ((List.perm_ext_iff_of_nodup (asc_nd ha) (asc_nd hb)).mpr h).eq_of_pairwise (fun x y _ _ h1 h2 => by omega) ha hb
section
variable {P : Program} {w : World} {A : Around} {E : Value → Shared → Prop} {s : Shared}
theorem call_set_lstI {l : Addr} {items : Array Value} (ns : List Int) {Q : Value → Shared → Prop} (hh : A.handled = none) (hl : s.heap.IsList l items) (hit : IntsAre items.toList ns) (hb : ns.length + 1 < scanBound)
    (h : ∀ (h' : Heap) (tk c : Nat), SetR w h' s.heap.objs.size (fun j => decide (j ∈ ns)) c → c ≤ ns.length → (∀ b o, s.heap.get? b = some o → h'.get? b = some o) → Q (.ref s.heap.objs.size) { s with heap := h', toks := tk }) :
    wpAny (model P w) A (call (.type "set") [.ref l]) Q E s := by
  have hisz : items.size = ns.length := by
    have q := IntsAre.length hit
    rw [Array.length_toList] at q
    exact q
  generalize hO : ({ cls := .type "set", dict := none, data := .set #[] 0 (.fresh 0 0 (!w.params.followText "set-order")) } : Obj) = O
  obtain ⟨c, tl, hmro⟩ := F.called_set.mro
  have hmade := F.called_set.made
  have hsub := F.called_set.sub
  refine wpAny_call (codeAny_of_tree ?_)
  show wpAny _ _ (callAny (.type "set") _) _ _ _
  refine wpAny_pure ⟨Code.quiet_builtin _ (by decide +kernel), codeAny_builtin F.entry_type_call ?_⟩
  rw [Around.under_plain (weight_type_call_type "set" [.ref l] []) rfl]
  have h1 := F.called_set.notType
  have h2 := F.called_set.canCreate
  have hct := F.typeCall_set_1 (.ref l)
  repeat (any_goals (first | assumption | wp_step))

  refine codeAny_mono (code_set_led1 (.ref l) (E := E) (Q₁ := fun obj s₁ => obj = .ref s.heap.objs.size ∧ s₁ = { s with heap := s.heap.push O }) ⟨rfl, by rw [hO]⟩) fun r s₁ hr => ?_
  cases r with
  | error e => exact hr
  | ok fl =>
    cases fl with
    | ret obj =>
      obtain ⟨rfl, rfl⟩ := hr
      have hS : (s.heap.push O).get? s.heap.objs.size = some O := Heap.get?_push_size _ (by rw [← hO] <;> rfl)
      have hT : Shared.TypeIs { s with heap := s.heap.push O } (.ref s.heap.objs.size) "set" := ⟨_, hS, by rw [← hO] <;> rfl⟩
      have hli := F.called_set.init.lookup
      have hbi := F.called_set.init.bind (.ref s.heap.objs.size)
      repeat (any_goals (first | assumption | wp_step))

      refine codeAny_mono (codeAny_call_builtin (R := wants (fun r s₂ => r = .none ∧ ∃ h' tk c, s₂ = { s with heap := h', toks := tk } ∧ SetR w h' s.heap.objs.size (fun j => decide (j ∈ ns)) c ∧ c ≤ ns.length ∧
          (∀ b o, s.heap.get? b = some o → h'.get? b = some o)) E) F.called_set.init.plain F.entry_set_init (check_set_init_1 hT ?_)) fun r₂ s₂ hr₂ => ?_
      · obtain ⟨ol, hol, hcl, nl, hdl⟩ := hl
        obtain ⟨ocls, odict, odata, oslots⟩ := ol
        simp only at hcl hdl
        subst hcl; subst hdl
        have hol' : (s.heap.push O).get? l = some { cls := .type "list", dict := odict, data := .seq items nl, slots := oslots } := Heap.get?_push_of_some _ hol
        have hsls := F.sub_list_set
        have hslf := F.sub_list_frozenset
        have hne : (Value.type "list" == Value.type "dict") = false := by decide
        have hl1 : (s.heap.push O).IsList l items := ⟨_, hol', rfl, nl, rfl⟩
        subst hO
        unfold Builtin.«set.__init__» noKeywords Builtin.Frozenset.updateFrom
        generalize hPI : pyIter = PI
        wp_walk
        subst hPI

        refine wpAny_pyIter_list hl1 ?_
        refine wpAny_bind (wpAny_runValue ?_)
        have hlS : l < s.heap.objs.size := Heap.lt_size hol
        have hh3 : A.in1.in1.in1.handled = none := by simp [hh]
        have hz1 : (s.heap.push { cls := .type "set", dict := none, data := .set #[] 0 (.fresh 0 0 (!w.params.followText "set-order")) }).objs.size = s.heap.objs.size + 1 := Heap.size_push ..
        have hneI : l ≠ (s.heap.push { cls := .type "set", dict := none, data := .set #[] 0 (.fresh 0 0 (!w.params.followText "set-order")) }).objs.size := by
          rw [hz1]; exact Nat.ne_of_lt (Nat.lt_succ_of_lt hlS)
        have hSf : s.heap.objs.size ∉ [(s.heap.push { cls := .type "set", dict := none, data := .set #[] 0 (.fresh 0 0 (!w.params.followText "set-order")) }).objs.size, l] := by
          rw [hz1]; simp only [List.mem_cons, List.mem_singleton, List.not_mem_nil, or_false, not_or]
          exact ⟨Nat.ne_of_lt (Nat.lt_succ_self _), Nat.ne_of_gt hlS⟩
        have hval : ∀ (i : Nat) (v : Value), items[i]? = some v → ∃ k t, ns[i]? = some k ∧ v = .int k t := fun i v hv => by
          have hi : i < ns.length := by rw [← hisz]; exact (Array.getElem?_eq_some_iff.mp hv).1
          obtain ⟨t, e⟩ := PyProof.Rows.IntsAre.int_at hit i v (by rw [Array.getElem?_toList]; exact hv)
          refine ⟨ns[i], t, List.getElem?_eq_getElem hi, ?_⟩
          rw [e, List.getD_eq_getElem?_getD, List.getElem?_eq_getElem hi] <;> rfl
        refine set_update_ints ((Walks.list hh3 _ l hneI items).toS) s.heap.objs.size
          hSf ns hisz hb hval (items.size - 0) 0 _ (by omega) (Nat.zero_le _)
          ⟨⟨_, Heap.get?_push_size _ rfl, rfl, rfl⟩, (hl1.push _)⟩ ?hS0 ?hR
        case hS0 =>
          have hget : ((s.heap.push { cls := .type "set", dict := none, data := .set #[] 0 (.fresh 0 0 (!w.params.followText "set-order")) }).push { cls := .type "list_iterator", data := .fields #[.ref l, .int 0 0] }).get? s.heap.objs.size = some { cls := .type "set", dict := none, data := .set #[] 0 (.fresh 0 0 (!w.params.followText "set-order")) } := Heap.get?_push_of_some _ hS
          exact ⟨0, Nat.le_refl 0, setR_new_at hget⟩
        case hR =>
          intro s' c' hm hc' hS'
          obtain ⟨h', g2, d', tk', os'⟩ := s'
          have eg : g2 = s.gens := hm.gens
          have ed : d' = s.drawn := hm.drawn
          have eo : os' = s.os := hm.os
          subst eg; subst ed; subst eo
          show wpAny _ _ _ _ _ _
          refine wpAny_pure ?_
          show wpAny _ _ (ret Value.none) _ _ _
          rw [hisz] at hc'
          refine wpAny_pure ⟨rfl, h', tk', c', rfl, hS', hc', fun b o e => ?_⟩
          have hb0 : b < s.heap.objs.size := Heap.lt_size e
          have hb1 : b ≠ s.heap.objs.size := Nat.ne_of_lt hb0
          have hb2 : b ≠ (s.heap.push { cls := .type "set", dict := none, data := .set #[] 0 (.fresh 0 0 (!w.params.followText "set-order")) }).objs.size := by
            rw [hz1]; exact Nat.ne_of_lt (Nat.lt_succ_of_lt hb0)
          exact hm.heap b o (by simp only [List.mem_cons, List.mem_singleton, List.not_mem_nil, or_false, not_or]; exact ⟨hb1, hb2⟩) (Heap.get?_push_of_some _ (Heap.get?_push_of_some _ e))

      · cases r₂ with
        | error e => exact hr₂
        | ok fl₂ =>
          cases fl₂ with
          | ret r =>
            obtain ⟨rfl, h', tk, c', rfl, hS', hc', hk'⟩ := hr₂
            repeat (any_goals (first | assumption | wp_step))
            exact h _ _ _ hS' hc' hk'
          | _ => exact hr₂.elim
    | _ => exact hr.elim
end
end Mi
namespace Mi
open PySem PySem.Spec PyProof.Rows L2
section
variable {P : Program} {w : World} {A : Around} {E : Value → Shared → Prop} {s : Shared}
theorem call_set_tupI {l : Addr} {items : Array Value} (ns : List Int) {Q : Value → Shared → Prop} (hh : A.handled = none) (hl : s.heap.IsTuple l items) (hit : IntsAre items.toList ns) (hb : ns.length + 1 < scanBound)
    (h : ∀ (h' : Heap) (tk c : Nat), SetR w h' s.heap.objs.size (fun j => decide (j ∈ ns)) c → c ≤ ns.length → (∀ b o, s.heap.get? b = some o → h'.get? b = some o) → Q (.ref s.heap.objs.size) { s with heap := h', toks := tk }) :
    wpAny (model P w) A (call (.type "set") [.ref l]) Q E s := by
  have hisz : items.size = ns.length := by
    have q := IntsAre.length hit
    rw [Array.length_toList] at q
    exact q
  generalize hO : ({ cls := .type "set", dict := none, data := .set #[] 0 (.fresh 0 0 (!w.params.followText "set-order")) } : Obj) = O
  obtain ⟨c, tl, hmro⟩ := F.called_set.mro
  have hmade := F.called_set.made
  have hsub := F.called_set.sub
  refine wpAny_call (codeAny_of_tree ?_)
  show wpAny _ _ (callAny (.type "set") _) _ _ _
  refine wpAny_pure ⟨Code.quiet_builtin _ (by decide +kernel), codeAny_builtin F.entry_type_call ?_⟩
  rw [Around.under_plain (weight_type_call_type "set" [.ref l] []) rfl]
  have h1 := F.called_set.notType
  have h2 := F.called_set.canCreate
  have hct := F.typeCall_set_1 (.ref l)
  repeat (any_goals (first | assumption | wp_step))

  refine codeAny_mono (code_set_led1 (.ref l) (E := E) (Q₁ := fun obj s₁ => obj = .ref s.heap.objs.size ∧ s₁ = { s with heap := s.heap.push O }) ⟨rfl, by rw [hO]⟩) fun r s₁ hr => ?_
  cases r with
  | error e => exact hr
  | ok fl =>
    cases fl with
    | ret obj =>
      obtain ⟨rfl, rfl⟩ := hr
      have hS : (s.heap.push O).get? s.heap.objs.size = some O := Heap.get?_push_size _ (by rw [← hO] <;> rfl)
      have hT : Shared.TypeIs { s with heap := s.heap.push O } (.ref s.heap.objs.size) "set" := ⟨_, hS, by rw [← hO] <;> rfl⟩
      have hli := F.called_set.init.lookup
      have hbi := F.called_set.init.bind (.ref s.heap.objs.size)
      repeat (any_goals (first | assumption | wp_step))

      refine codeAny_mono (codeAny_call_builtin (R := wants (fun r s₂ => r = .none ∧ ∃ h' tk c, s₂ = { s with heap := h', toks := tk } ∧ SetR w h' s.heap.objs.size (fun j => decide (j ∈ ns)) c ∧ c ≤ ns.length ∧
          (∀ b o, s.heap.get? b = some o → h'.get? b = some o)) E) F.called_set.init.plain F.entry_set_init (check_set_init_1 hT ?_)) fun r₂ s₂ hr₂ => ?_
      · obtain ⟨ol, hol, hcl, nl, hdl⟩ := hl
        obtain ⟨ocls, odict, odata, oslots⟩ := ol
        simp only at hcl hdl
        subst hcl; subst hdl
        have hol' : (s.heap.push O).get? l = some { cls := .type "tuple", dict := odict, data := .seq items nl, slots := oslots } := Heap.get?_push_of_some _ hol
        have hsls := F.sub_tuple_set
        have hslf := F.sub_tuple_frozenset
        have hne : (Value.type "tuple" == Value.type "dict") = false := by decide
        have hl1 : (s.heap.push O).IsTuple l items := ⟨_, hol', rfl, nl, rfl⟩
        subst hO
        unfold Builtin.«set.__init__» noKeywords Builtin.Frozenset.updateFrom
        generalize hPI : pyIter = PI
        wp_walk
        subst hPI

        refine wpAny_pyIter_tuple hl1 ?_
        refine wpAny_bind (wpAny_runValue ?_)
        have hlS : l < s.heap.objs.size := Heap.lt_size hol
        have hh3 : A.in1.in1.in1.handled = none := by simp [hh]
        have hz1 : (s.heap.push { cls := .type "set", dict := none, data := .set #[] 0 (.fresh 0 0 (!w.params.followText "set-order")) }).objs.size = s.heap.objs.size + 1 := Heap.size_push ..
        have hneI : l ≠ (s.heap.push { cls := .type "set", dict := none, data := .set #[] 0 (.fresh 0 0 (!w.params.followText "set-order")) }).objs.size := by
          rw [hz1]; exact Nat.ne_of_lt (Nat.lt_succ_of_lt hlS)
        have hSf : s.heap.objs.size ∉ [(s.heap.push { cls := .type "set", dict := none, data := .set #[] 0 (.fresh 0 0 (!w.params.followText "set-order")) }).objs.size, l] := by
          rw [hz1]; simp only [List.mem_cons, List.mem_singleton, List.not_mem_nil, or_false, not_or]
          exact ⟨Nat.ne_of_lt (Nat.lt_succ_self _), Nat.ne_of_gt hlS⟩
        have hval : ∀ (i : Nat) (v : Value), items[i]? = some v → ∃ k t, ns[i]? = some k ∧ v = .int k t := fun i v hv => by
          have hi : i < ns.length := by rw [← hisz]; exact (Array.getElem?_eq_some_iff.mp hv).1
          obtain ⟨t, e⟩ := PyProof.Rows.IntsAre.int_at hit i v (by rw [Array.getElem?_toList]; exact hv)
          refine ⟨ns[i], t, List.getElem?_eq_getElem hi, ?_⟩
          rw [e, List.getD_eq_getElem?_getD, List.getElem?_eq_getElem hi] <;> rfl
        refine set_update_ints ((Walks.tuple hh3 _ l hneI items).toS) s.heap.objs.size
          hSf ns hisz hb hval (items.size - 0) 0 _ (by omega) (Nat.zero_le _)
          ⟨⟨_, Heap.get?_push_size _ rfl, rfl, rfl⟩, (hl1.push _)⟩ ?hS0 ?hR
        case hS0 =>
          have hget : ((s.heap.push { cls := .type "set", dict := none, data := .set #[] 0 (.fresh 0 0 (!w.params.followText "set-order")) }).push { cls := .type "tuple_iterator", data := .fields #[.ref l, .int 0 0] }).get? s.heap.objs.size = some { cls := .type "set", dict := none, data := .set #[] 0 (.fresh 0 0 (!w.params.followText "set-order")) } := Heap.get?_push_of_some _ hS
          exact ⟨0, Nat.le_refl 0, setR_new_at hget⟩
        case hR =>
          intro s' c' hm hc' hS'
          obtain ⟨h', g2, d', tk', os'⟩ := s'
          have eg : g2 = s.gens := hm.gens
          have ed : d' = s.drawn := hm.drawn
          have eo : os' = s.os := hm.os
          subst eg; subst ed; subst eo
          show wpAny _ _ _ _ _ _
          refine wpAny_pure ?_
          show wpAny _ _ (ret Value.none) _ _ _
          rw [hisz] at hc'
          refine wpAny_pure ⟨rfl, h', tk', c', rfl, hS', hc', fun b o e => ?_⟩
          have hb0 : b < s.heap.objs.size := Heap.lt_size e
          have hb1 : b ≠ s.heap.objs.size := Nat.ne_of_lt hb0
          have hb2 : b ≠ (s.heap.push { cls := .type "set", dict := none, data := .set #[] 0 (.fresh 0 0 (!w.params.followText "set-order")) }).objs.size := by
            rw [hz1]; exact Nat.ne_of_lt (Nat.lt_succ_of_lt hb0)
          exact hm.heap b o (by simp only [List.mem_cons, List.mem_singleton, List.not_mem_nil, or_false, not_or]; exact ⟨hb1, hb2⟩) (Heap.get?_push_of_some _ (Heap.get?_push_of_some _ e))

      · cases r₂ with
        | error e => exact hr₂
        | ok fl₂ =>
          cases fl₂ with
          | ret r =>
            obtain ⟨rfl, h', tk, c', rfl, hS', hc', hk'⟩ := hr₂
            repeat (any_goals (first | assumption | wp_step))
            exact h _ _ _ hS' hc' hk'
          | _ => exact hr₂.elim
    | _ => exact hr.elim
end
end Mi
namespace Mi
open PySem PySem.Spec PyProof.Rows L2
section
variable {P : Program} {w : World} {A : Around} {E : Value → Shared → Prop} {s : Shared} {a : Addr}
theorem sorted_setB {S : Int → Bool} {n : Nat} {Q : Value → Shared → Prop} (R : SetR w s.heap a S n) (hh : A.handled = none)
    (hQ : ∀ s' p (out : Array Value) (c : Nat) (ns : List Int), (∀ b o, s.heap.get? b = some o → s'.heap.get? b = some o) → s'.gens = s.gens → s'.os = s.os → s.heap.objs.size ≤ p →
      s'.heap.get? p = some (seqObj "list" out c) → IntsAre out.toList ns → ns.Pairwise (· < ·) → (∀ k, k ∈ ns ↔ S k = true) → ns.length = n → Q (.ref p) s') :
    wpAny (model P w) A (call (.builtin "sorted") [.ref a]) Q E s := by
  obtain ⟨o, es, ep, t, ho, hex, hd, g, nd, hm, hb, hf, hn, hr, hl⟩ := R
  refine Calls.call_function_entry kind_sorted plain_sorted entry_sorted (args_sorted1 _) ?_
  unfold Builtin.«sorted»
  refine wpAny_bind (m := checkCount "sorted" 1 1 _) (wpAny_pure ?_)
  refine wpAny_bind (collect_set (A := A.in1) hh ⟨o, ho, hex.1, hd⟩ hf hb hr hl fun s1 vs k1 hz g1 o1 pm => ?_)
  have hvl : vs.length = n := by rw [pm.length_eq, List.length_map, Array.length_toList]; exact hn
  have hI : IntsAre vs (vs.map Builtin.Re.reRawOf) := ints_of vs fun v hv => by
    obtain ⟨e, he, q⟩ := List.mem_map.mp (pm.mem_iff.mp hv)
    obtain ⟨k, tk, h1, _⟩ := g e he
    exact ⟨k, tk, by rw [← q]; exact h1⟩
  have pk : (vs.map Builtin.Re.reRawOf).Perm (es.toList.map keyOf) := by
    have q := pm.map Builtin.Re.reRawOf
    rw [List.map_map] at q
    exact q
  have hzl : vs.length ≤ sizeLine := by rw [hvl, sizeLine_eq]; unfold scanBound at hb; omega
  refine wpAny_bind (wpAny_newList ?_ hzl)
  have hoL : (s1.heap.push (seqObj "list" vs.toArray 0)).get? s1.heap.objs.size = some (seqObj "list" vs.toArray 0) := Heap.get?_push_size _ rfl
  refine wpAny_bind (wpAny_holding (wpAny_call_entry slot_list_sort ⟨_, hoL, rfl⟩ entry_list_sort (SrtO.list_sort_ord SrtO.swo_int hoL hzl (fun h2 => SrtO.ints_sortable hI h2) fun out h1 h2 => ⟨_, rfl, ?_⟩) (args_list_sort _)))
  obtain ⟨a1, a2, a3⟩ := SrtO.ints_out hI h1 h2
  obtain ⟨c, hc⟩ := sortedHeap_at (vs := vs) (out := out.toArray) hoL
  have pn : (out.map SrtO.iv).Perm (es.toList.map keyOf) := a2.trans pk
  refine wpAny_pure ⟨_, rfl, hQ _ s1.heap.objs.size out.toArray c (out.map SrtO.iv) (fun b u e => ?_) g1 o1 hz hc a1 (lt_of_le_nodup _ a3 (pn.nodup_iff.mpr nd)) (fun k => by rw [pn.mem_iff, ← hm k]) ?_⟩
  · have q := k1 b u e
    have hlt := Heap.lt_size q
    show (sortedHeap (s1.heap.push (seqObj "list" vs.toArray 0)) s1.heap.objs.size vs out.toArray).get? b = some u
    rw [sortedHeap_old (Nat.ne_of_lt hlt) (by rw [size_push']; exact Nat.lt_succ_of_lt hlt)]
    exact Heap.get?_push_of_some _ q
  · rw [pn.length_eq, List.length_map, Array.length_toList]; exact hn
end
section
variable {X : Cx}
def rSortedSetB (w : World) : List V → Hp → VK → Prop := fun vs H Q => ∃ (a : Addr) (S : Int → Bool) (n : Nat), vs = [V.ref a] ∧ H a = some (SetO w a S n) ∧
  ∀ (ns : List Int) (p : Addr), ns.Pairwise (· < ·) → (∀ k : Int, k ∈ ns ↔ S k = true) → ns.length = n → H p = none → Q (.ref p) (upd H p (.lst (ns.map V.int)))
theorem cr_sortedSetB (hc : X.calm = true) : CallR X (.builtin "sorted") (rSortedSetB X.w) := by
  intro pins s σ H vs us Q I r h
  obtain ⟨a, S, n, rfl, ha, q⟩ := h
  have R := setO_get I ha
  rw [Vals.ref1 r]
  have hn4 : n < scanBound := by
    obtain ⟨_, _, _, _, _, _, _, _, _, _, hb, _, hn, _⟩ := R
    omega
  refine sorted_setB R (I.ok.hd hc) fun s' p out c ns k g o hp hg hi hs hm hl => ?_
  have hlen : (ns.map V.int).length ≤ sizeLine := by rw [List.length_map, hl, sizeLine_eq]; unfold scanBound at hn4; omega
  have hn : H p = none := I.hok.fresh hp
  have J : Inv X pins σ (upd H p (.lst (ns.map V.int))) { s with heap := s'.heap, gens := s'.gens, drawn := s'.drawn, toks := s'.toks } :=
    I.call (ch := []) (Un.laid k hp hn) (I.hok.laid k hp ⟨hlen, out.toList, c, vals_of_ints hi, hg⟩) (by rw [g]; exact I.bare) (fun _ z => nomatch z)
  have e : s' = { s with heap := s'.heap, gens := s'.gens, drawn := s'.drawn, toks := s'.toks } := by
    cases s'
    cases s
    cases o
    rfl
  rw [e]
  exact ⟨.ref p, _, J, rfl, q ns p hs hm hl hn⟩
def rSetL (K : PySem.W.Frag) (w : World) : List V → Hp → VK → Prop := fun vs H Q => ∃ (l : Addr) (ns : List Int), vs = [V.ref l] ∧ SqL K H l (ns.map V.int) ∧ ns.length + 1 < scanBound ∧
  ∀ (p : Addr) (c : Nat), H p = none → Q (.ref p) (upd H p (SetO w p (fun j => decide (j ∈ ns)) c))
theorem cr_setL (hc : X.calm = true) : CallR X (.type "set") (rSetL X.K X.w) := by
  intro pins s σ H vs us Q I r h
  obtain ⟨l, ns, rfl, hs, hb, q⟩ := h
  rw [Vals.ref1 r]
  obtain ⟨its, rv, pl, hz⟩ := I.list hs
  refine call_set_lstI ns (I.ok.hd hc) pl.isList (by simpa using rv.ints) hb fun h' tk c R _ hk => ?_
  exact ⟨.ref _, upd H s.heap.objs.size (SetO X.w s.heap.objs.size (fun j => decide (j ∈ ns)) c), I.laid (t' := tk) (fun b u e => hk b u e) (Nat.le_refl _) (setO_new R), rfl, q _ _ (I.hok.fresh (Nat.le_refl _))⟩
end
section
variable {X : Cx}
def rSetLT (K : PySem.W.Frag) (w : World) : List V → Hp → VK → Prop := fun vs H Q => ∃ (l : Addr) (ns : List Int), vs = [V.ref l] ∧ (SqL K H l (ns.map V.int) ∨ SqT K H l (ns.map V.int)) ∧ ns.length + 1 < scanBound ∧
  ∀ (p : Addr) (c : Nat), H p = none → Q (.ref p) (upd H p (SetO w p (fun j => decide (j ∈ ns)) c))
theorem cr_setLT (hc : X.calm = true) : CallR X (.type "set") (rSetLT X.K X.w) := by
  intro pins s σ H vs us Q I r h
  obtain ⟨l, ns, rfl, hs, hb, q⟩ := h
  rcases hs with hs | hs
  · exact cr_setL hc pins s σ H _ us Q I r ⟨l, ns, rfl, hs, hb, q⟩
  · rw [Vals.ref1 r]
    obtain ⟨its, rv, pl, hz⟩ := I.tuple hs
    refine call_set_tupI ns (I.ok.hd hc) pl (by simpa using rv.ints) hb fun h' tk c R _ hk => ?_
    exact ⟨.ref _, upd H s.heap.objs.size (SetO X.w s.heap.objs.size (fun j => decide (j ∈ ns)) c), I.laid (t' := tk) (fun b u e => hk b u e) (Nat.le_refl _) (setO_new R), rfl, q _ _ (I.hok.fresh (Nat.le_refl _))⟩
end
def srtsetD : PD → Option PD
  | .lst a => (match intsOf a with
    | some ns => if ns.length + 1 < scanBound then some (.lst ((srtU ns).map .int)) else none
    | none => none)
  | .tup a => (match intsOf a with
    | some ns => if ns.length + 1 < scanBound then some (.lst ((srtU ns).map .int)) else none
    | none => none)
  | _ => none
def indexD : PD → PD → Option PD
  | .lst a, .int n => (match intsOf a with
    | some ns => (match ns.findIdx? (· == n) with
      | some j => some (.int j)
      | none => none)
    | none => none)
  | _, _ => none
section
variable {X : Cx} {T : Tb} {W : WX} {g h : EX} {a b : Expr} {pos : Pos}
theorem de_srtset {p p2 q : Pos} (hc : X.calm = true) (hm : X.mg "sorted" = none) (hm2 : X.mg "set" = none) (ha : PE X a (tE X.K T W g)) (hg : Gl X "sorted" := by rfl) (hg2 : Gl X "set" := by rfl)
    (na : starEach [a] X.env = (false, eval a X.env) :: starEach [] X.env := by rfl)
    (ns : starEach [Expr.Call (.Name "set" p2) [a] [] q] X.env = (false, eval (Expr.Call (.Name "set" p2) [a] [] q) X.env) :: starEach [] X.env := by rfl) :
    PE X (.Call (.Name "sorted" p) [.Call (.Name "set" p2) [a] [] q] [] pos) (tE X.K T W (eUn srtsetD g)) := by
  refine peImp (pe_callB (cr_sortedSetB hc) hg hm rfl (pa_cons (pe_callTy (cr_setLT hc) hg2 hm2 PyProof.Rows.boot_set (pa_cons ha pa_nil na) (he := na)) pa_nil ns) (he := ns)) fun σ H Q hh => ?_
  obtain ⟨ρ, M, F, α, L, R, hh⟩ := rd_to hh
  refine rd_of L R (at_bind hh fun x M1 v H1 F1 α1 s1 R1 r1 h1 => ?_)
  obtain ⟨M2, F2, α2, ds, c, R2, tp, e, fin⟩ := at_op1 R1 r1 h1
  unfold srtsetD at e
  split at e
  · rename_i ds
    split at e
    · rename_i ns hi
      split at e
      · rename_i hb
        cases e
        obtain ⟨l, xs, rfl, h2, h3⟩ := tp.lst R2
        refine ⟨l, ns, rfl, .inl (SqL.of (by rw [← h3.ints hi]; exact h2)), hb, fun p1 c1 hp1 => ?_⟩
        refine ⟨p1, _, c1, rfl, upd_same, fun ms p2 hs hm hl hp2 => ?_⟩
        have e1 : ms = srtU ns := asc_uniq hs (srtU_asc ns) fun k => by rw [hm k, mem_srtU, decide_eq_true_iff]
        rw [e1]
        have R3 := R2.side (o := SetO X.w p1 (fun j => decide (j ∈ ns)) c1) hp1
        have s3 : Step H1 F2 α2 (upd H1 p1 (SetO X.w p1 (fun j => decide (j ∈ ns)) c1)) F2 α2 := step_side hp1
        exact EndD.lst R3 (fun v H' F' R' s r => fin v H' F' R' (s3.trans s) r) (reps_ints _) hp2
      · cases e
    · cases e
  · rename_i ds
    split at e
    · rename_i ns hi
      split at e
      · rename_i hb
        cases e
        obtain ⟨l, xs, rfl, h2, _, h3⟩ := tp.tup R2
        refine ⟨l, ns, rfl, .inr (by rw [← h3.ints hi]; exact h2), hb, fun p1 c1 hp1 => ?_⟩
        refine ⟨p1, _, c1, rfl, upd_same, fun ms p2 hs hm hl hp2 => ?_⟩
        have e1 : ms = srtU ns := asc_uniq hs (srtU_asc ns) fun k => by rw [hm k, mem_srtU, decide_eq_true_iff]
        rw [e1]
        have R3 := R2.side (o := SetO X.w p1 (fun j => decide (j ∈ ns)) c1) hp1
        have s3 : Step H1 F2 α2 (upd H1 p1 (SetO X.w p1 (fun j => decide (j ∈ ns)) c1)) F2 α2 := step_side hp1
        exact EndD.lst R3 (fun v H' F' R' s r => fin v H' F' R' (s3.trans s) r) (reps_ints _) hp2
      · cases e
    · cases e
  · cases e
theorem eqV_ints {n m : Int} : eqV (.int n) (.int m) = (n == m) := by
  unfold eqV
  simp
theorem flat_ints : ∀ ns : List Int, (ns.map V.int).all flatV = true
  | [] => rfl
  | n :: ns => by
    rw [List.map_cons, List.all_cons, flat_ints ns]
    rfl
theorem mt_idx : MtR X "list.index" (fun x xs H Q => ∃ y, xs = [y] ∧ rP2 X.K T indexD x y H Q) := by
  intro pins s σ H x xs v us Q I rx rxs h
  obtain ⟨y, rfl, M, F, α, dx, dy, c, R, t1, t2, e, fin⟩ := h
  unfold indexD at e
  split at e
  · rename_i ds n
    split at e
    · rename_i ns hi
      split at e
      · rename_i j hj
        cases e
        obtain ⟨l, ys, rfl, h2, h3⟩ := t1.lst R
        obtain rfl := t2.int
        have e3 := h3.ints hi
        subst e3
        obtain ⟨hj1, hj2, hj3⟩ := List.findIdx?_eq_some_iff_getElem.mp hj
        refine mt_index pins s σ H _ _ v us Q I rx rxs ⟨l, ns.map V.int, .int n, j, .int ns[j], rfl, rfl, SqL.of h2, rfl, flat_ints ns, by rw [List.getElem?_map, List.getElem?_eq_getElem hj1]; rfl, by rw [eqV_ints]; exact hj2, fun m z hm hz => ?_, fin.int R⟩
        rw [List.getElem?_map, List.getElem?_eq_getElem (by omega)] at hz
        cases hz
        rw [eqV_ints]
        simpa using hj3 m hm
      · cases e
    · cases e
  · cases e
end
end Mi
namespace Mi
open PySem PySem.Spec PyProof.Rows L2
def eIdx (g h : EX) : EX := eMt1 (op2 indexD) g h
section
variable {X : Cx} {T : Tb} {W : WX} {g h : EX} {a b : Expr} {pos : Pos}
theorem de_index {apos : Pos} (ha : PE X a (tE X.K T W g)) (hb : PE X b (tE X.K T W h)) (hbase : attributeBase a "index" X.env (eval a X.env) = eval a X.env := by rfl) (hline : (apos.endLine == pos.line) = true := by rfl)
    (hs : starEach [b] X.env = (false, eval b X.env) :: starEach [] X.env := by rfl)
    (hfew : ((backTo pos (starEach [b] X.env)).all (fun x => !x.1) && (backToKw pos (keywordEach [] X.env)).all (fun x => x.1.isSome)
      && decide ([b].length + ([] : List Keyword).length + (if ([] : List Keyword).isEmpty then 0 else 1) < 30)) = true := by rfl) :
    PE X (.Call (.Attribute a "index" apos) [b] [] pos) (tE X.K T W (eIdx g h)) :=
  peImp (pe_bm PySem.F.plainAttrs_list PySem.F.slot_list_index rfl mt_idx ha (pa_cons hb pa_nil hs) hbase hfew hline hs rfl) fun σ H Q hh => mt1_at (fun _ _ _ _ _ _ _ _ _ _ R rx ry h => ⟨_, rfl, at_op2 R rx ry h⟩) hh
end
end Mi
namespace Mi
open PySem PySem.Spec PyProof.Rows L2
structure KTab (K : PySem.W.Frag) (w : World) (d : Addr) (kvs : List (Str × Int)) : Prop where
  kd : ∃ es n, KDict K w d es n
  get : ∀ z : Str, ∃ u, PySem.W.nsIn K d z = some u ∧ (match kvs.lookup z with
    | some i => ∃ t, u = some (.int i t)
    | none => u = none)
section
variable {fa : List He.Fa} {fn : List He.DefD} {ts : List He.Tab} {w : World} {K : PySem.W.Frag}
theorem tab_at (c : He.SaysT fa fn ts w K) (i : Nat) {t : He.Tab} (h : ts[i]? = some t := by rfl) : He.dicW K (t.1 K) = some (He.keysIn w.params t.2) := by
  have e : ts.map (fun t => He.dicW K (t.1 K)) = ts.map fun t => some (He.keysIn w.params t.2) := congrArg (fun z : He.AlT => z.2) c
  have e2 : (ts.map fun t => He.dicW K (t.1 K))[i]? = (ts.map fun t => some (He.keysIn w.params t.2))[i]? := by rw [e]
  rw [List.getElem?_map, List.getElem?_map, h] at e2
  exact Option.some.inj e2
theorem key_in {P : Params} {e : DictEntry} : ∀ {l : List DictEntry} {ks : List Str}, l.map He.keyOf = He.keysIn P ks → e ∈ l → ∃ k ∈ ks, ∃ t, e.key = .str k t
  | [], _, _, he => nomatch he
  | _ :: _, [], h, _ => by cases h
  | a :: l, k :: ks, h, he => by
    have h1 : He.keyOf a :: l.map He.keyOf = some (k, PyData.keyHash P k) :: He.keysIn P ks := h
    injection h1 with h2 h3
    rcases List.mem_cons.mp he with q | q
    · subst q
      unfold He.keyOf at h2
      split at h2
      · rename_i x t z
        obtain ⟨h5, h6⟩ := Prod.mk.inj (Option.some.inj h2)
        exact ⟨k, List.mem_cons_self, t, by rw [z, h5]⟩
      · cases h2
    · obtain ⟨k', m, r⟩ := key_in h3 q
      exact ⟨k', List.mem_cons_of_mem _ m, r⟩
theorem lookup_none {z : Str} : ∀ {kvs : List (Str × Int)}, kvs.lookup z = none → z ∉ kvs.map (·.1)
  | [], _ => by simp
  | (k, i) :: r, h => by
    rw [List.lookup_cons] at h
    cases q : z == k with
    | true => rw [q] at h; cases h
    | false =>
      rw [q] at h
      rw [List.map_cons, List.mem_cons]
      rintro (e | e)
      · have e' : z = k := e
        subst e'
        simp at q
      · exact lookup_none h e
theorem lookup_some {z : Str} {i : Int} : ∀ {kvs : List (Str × Int)}, kvs.lookup z = some i → (z, i) ∈ kvs
  | [], h => by cases h
  | (k, j) :: r, h => by
    rw [List.lookup_cons] at h
    cases q : z == k with
    | true =>
      rw [q] at h
      have e : z = k := by simpa using q
      subst e
      cases h
      exact List.mem_cons_self
    | false =>
      rw [q] at h
      exact List.mem_cons_of_mem _ (lookup_some h)
theorem ktab_of {a : Addr} {kvs : List (Str × Int)} (h1 : He.dicW K a = some (He.keysIn w.params (kvs.map (·.1)))) (h2 : He.valsB K a (kvs.map fun q => (q.1, He.Dv.int q.2)) = true) : KTab K w a kvs := by
  obtain ⟨es, n, D⟩ := He.dicW_ok h1
  refine ⟨⟨es, n, D⟩, fun z => ?_⟩
  cases hl : kvs.lookup z with
  | some i =>
    obtain ⟨u, e, r⟩ := He.valsB_ok h2 (q := (z, He.Dv.int i)) (List.mem_map.mpr ⟨(z, i), lookup_some hl, rfl⟩)
    exact ⟨some u, e, by
      obtain ⟨t, q⟩ := r
      exact ⟨t, by rw [q]⟩⟩
  | none =>
    have hk := lookup_none hl
    have hmap : es.toList.map He.keyOf = He.keysIn w.params (kvs.map (·.1)) := by
      unfold He.dicW at h1
      rw [D.at_] at h1
      have z2 : (a == sysModules) = false := D.low
      simp only [z2] at h1
      exact Option.some.inj h1
    refine ⟨none, ?_, rfl⟩
    unfold PySem.W.nsIn
    rw [D.at_]
    dsimp only
    have f1 : es.toList.find? (·.key.isStr z) = none := by
      rw [List.find?_eq_none]
      intro e he q
      obtain ⟨k, m, t, hq⟩ := key_in hmap he
      rw [hq] at q
      have : k = z := by
        have q' : (k == z) = true := q
        simpa using q'
      subst this
      exact hk m
    have f2 : es.toList.any (·.refKey) = false := by
      rw [List.any_eq_false]
      intro e he q
      obtain ⟨k, m, t, hq⟩ := key_in hmap he
      unfold DictEntry.refKey at q
      rw [hq] at q
      cases q
    rw [f1, f2]
    rfl
end
def kgetD (kvs : List (Str × Int)) : PD → PD → Option PD
  | .str z, d => (match kvs.lookup z with
    | some i => some (.int i)
    | none => (match d with
      | .int j => some (.int j)
      | _ => none))
  | _, _ => none
section
variable {X : Cx} {T : Tb} {W : WX} {g h : EX} {a b : Expr} {pos : Pos}
theorem de_kget {kvs : List (Str × Int)} {d : Addr} {x : Str} {p apos : Pos} (D : KTab X.K X.w d kvs) (hm : X.mg x = some (.ref d)) (ha : PE X a (tE X.K T W g)) (hb : PE X b (tE X.K T W h)) (hg : Gl X x := by rfl)
    (m : M2 X (.Name x p) "get" apos a b pos := by exact ⟨rfl, rfl, rfl, rfl⟩) (hd : (x == ("__debug__" : Str)) = false := by decide) :
    PE X (.Call (.Attribute (.Name x p) "get" apos) [a, b] [] pos) (tE X.K T W (eBin (kgetD kvs) g h)) := by
  obtain ⟨⟨es, n, KD⟩, get⟩ := D
  refine ⟨fun pins s σ H Q I hh => ?_⟩
  refine wpAny_Call_method m.base m.few m.line PySem.F.plainAttrs_dict PySem.F.slot_dict_get PySem.F.type_dict_get ?_
  refine thn ((pe_glob (pos := p) hg hm (v := V.ref d) rfl hd).run pins s σ H (fun v H1 => v = V.ref d ∧ H1 = H) I ⟨rfl, rfl⟩) fun u s1 ⟨v, H1, I1, rx, ev, eH⟩ => ?_
  subst ev eH
  obtain rfl : u = Value.ref d := rx
  have mo := PySem.W.mapOf_K (prog := X.prog) (w := X.w) I1.kIn KD.at_ KD.lit
  refine ⟨mo.typeIs, fun b' e => ?_, ?_⟩
  · cases e
    exact ⟨_, I1.kIn _ _ KD.at_, rfl⟩
  rw [m.trees]
  obtain ⟨ρ, M, F, α, L, R, hh⟩ := rd_to hh
  refine Calls.callWith_builtin rfl (Calls.evalArgs_plain (Calls.spliced_cons (thn (ha.run pins s1 σ H1 _ I1 (rd_of L R (at_bind (k := fun y H2 => tE X.K T W h σ H2 fun z H3 => rP2 X.K T (kgetD kvs) y z H3 Q) hh fun x M1 v H1 F1 α1 s1 R1 r1 h1 => rd_of (L.mono s1) R1 (at_bind h1 fun y M2 w H2 F2 α2 s2 R2 r2 h2 => at_op2 R2 (r1.mono s2) r2 h2)))) fun iv s2 ⟨y, H2, I2, ry, q2⟩ =>
    Calls.spliced_cons (thn (hb.run pins s2 σ H2 _ I2 q2) fun fv s3 ⟨z, H3, I3, rz, q3⟩ => Calls.spliced_nil ?_))))
  obtain ⟨M3, F3, α3, dy, dz, c, R3, t1, t2, e, fin⟩ := q3
  unfold kgetD at e
  split at e
  · rename_i zz
    obtain rfl := t1.str
    obtain ⟨t, rfl⟩ := ry
    obtain ⟨r, e1, e2⟩ := get zz
    have mo3 := PySem.W.mapOf_K (prog := X.prog) (w := X.w) I3.kIn KD.at_ KD.lit
    refine call_meetsIn PySem.F.slot_dict_get mo3.typeIs PySem.F.entry_dict_get (PySem.F.args_dict_get_3 _ _ _) (meets_dict_get_default (strKind X.prog X.w) d (PySem.strKind_is X.prog X.w zz t) KD.low fv) ⟨_, mo3, ?_⟩
    rw [PySem.W.find_K KD.at_ e1]
    split at e
    · rename_i i hl
      rw [hl] at e2
      obtain ⟨t', rfl⟩ := e2
      cases e
      exact ⟨.int i, H3, I3.tok _, ⟨t', rfl⟩, fin.int R3⟩
    · rename_i hl
      rw [hl] at e2
      subst e2
      split at e
      · rename_i j
        cases e
        obtain rfl := t2.int
        obtain ⟨t'', rfl⟩ := rz
        exact ⟨.int j, H3, I3.tok _, ⟨t'', rfl⟩, fin.int R3⟩
      · cases e
  · cases e
end
end Mi
namespace Mi
open PySem PySem.Spec PyProof.Rows L2
/-- a test: a if c else b -/
def tIfx (t a b : TX) : TX := fun ρ M => bnd (t ρ M) fun x M1 => if x = true then a ρ M1 else b ρ M1
section
variable {X : Cx} {T : Tb} {W : WX} {t u v : TX} {a b c : Expr} {pos : Pos}
theorem isTrue_ifx {env : Env} {whole : Sem Value} : isTrue (.IfExp c a b pos) env whole = (isTrue c env (eval c env) >>= fun d => if d = true then isTrue a env (eval a env) else isTrue b env (eval b env)) := by
  rfl
theorem dt_ifx (hc : PT X c (tT X.K T W t)) (ha : PT X a (tT X.K T W u)) (hb : PT X b (tT X.K T W v)) : PT X (.IfExp c a b pos) (tT X.K T W (tIfx t u v)) := by
  refine ⟨fun pins s σ H Q I hh => ?_⟩
  rw [isTrue_ifx]
  obtain ⟨ρ, M, F, α, L, R, hh⟩ := rd_to hh
  refine wpAny_bind (thn (hc.run pins s σ H (fun d H1 => if d = true then tT X.K T W u σ H1 Q else tT X.K T W v σ H1 Q) I (rd_of L R (at_bind hh fun x M1 d H1 F1 α1 s1 R1 r1 h1 => ?_))) fun d s1 ⟨H1, I1, q1⟩ => ?_)
  · subst r1
    cases d with
    | true => exact rd_of (L.mono s1) R1 h1
    | false => exact rd_of (L.mono s1) R1 h1
  · cases d with
    | true => exact ha.run pins s1 σ H1 Q I1 q1
    | false => exact hb.run pins s1 σ H1 Q I1 q1
end
end Mi
namespace Mi
open PySem PySem.Spec PyProof.Rows L2
def strsOf : List PD → Option (List Str)
  | [] => some []
  | .str b :: r => (match strsOf r with
    | some bs => some (b :: bs)
    | none => none)
  | _ :: _ => none
def partD : PD → PD → Option PD
  | .str a, .str b => if (b.length == 0) = false ∧ a.length ≤ sizeLine then some (.tup [.str (Txt.partition a b).1, .str (Txt.partition a b).2.1, .str (Txt.partition a b).2.2]) else none
  | _, _ => none
def splitD : PD → PD → Option PD
  | .str a, .str b => if (b.length == 0) = false ∧ a.length + 2 ≤ sizeLine then some (.lst ((Txt.split a b).map .str)) else none
  | _, _ => none
def joinD : PD → PD → Option PD
  | .str a, .lst ds => (match strsOf ds with
    | some ys => if (ys.map (·.length)).sum + ys.length * a.length ≤ 16777216 then some (.str (Txt.join a ys)) else none
    | none => none)
  | _, _ => none
def isS : VL → Bool
  | .d (.str _) => true
  | _ => false
def eSt1 (f : PD → PD → Option PD) (g h : EX) : EX := fun ρ M => bnd (g ρ M) fun x M1 => if isS x = true then bnd (h ρ M1) fun y M2 => op2 f x y M2 else none
def eNo : EX := fun _ _ => none
def mkRep (xs : List VL) (M : MH) : Option (Rs VL) := match xs with
  | [.d (.lst a), .d (.int k)] => if -(2 ^ 63) ≤ k ∧ k < 2 ^ 63 ∧ a.length * k.toNat ≤ sizeLine then some (.ok (.r M.length) (M ++ [.lst (List.replicate k.toNat a).flatten])) else none
  | _ => none
def eRep (g h : EX) : EX := fun ρ M => bnd (g ρ M) fun x M1 => bnd (h ρ M1) fun y M2 => mkRep [x, y] M2
def rgOk (a b : Int) : Bool := decide (-(2 ^ 62) ≤ a) && decide (a < 2 ^ 62) && decide (-(2 ^ 62) ≤ b) && decide (b < 2 ^ 62) && decide ((b - a).toNat ≤ 2 ^ 24)
def tupRg1 : PD → Option PD
  | .int j => if rgOk 0 j = true then some (.tup (rangeL 0 j)) else none
  | _ => none
section
variable {X : Cx} {T : Tb} {W : WX} {g h : EX} {a b : Expr} {pos : Pos}
theorem st1_at {f : PD → PD → Option PD} {r : V → List V → Hp → VK → Prop} (hf : ∀ (x y : V) (H : Hp) (Q : VK), rP2 X.K T f x y H Q → r x [y] H Q)
    {σ : L2.St} {H : Hp} {Q : VK} (hh : tE X.K T W (eSt1 f g h) σ H Q) : tM1 r (tE X.K T W g) (tE X.K T W h) σ H Q := by
  obtain ⟨ρ, M, F, α, L, R, hh⟩ := rd_to hh
  refine rd_of L R (at_bind hh fun x M1 v H1 F1 α1 s1 R1 r1 h1 => ?_)
  obtain ⟨q, e, p⟩ := h1
  split at e
  · rename_i hl
    have hx : ∃ a, v = .str a := by
      unfold isS at hl
      split at hl
      · cases r1
        exact ⟨_, rfl⟩
      · cases hl
    refine ⟨hx, rd_of (L.mono s1) R1 (at_bind (W := W) (σ := σ) ⟨q, e, p⟩ fun y M2 w H2 F2 α2 s2 R2 r2 h2 => ?_)⟩
    exact hf _ _ _ _ (at_op2 R2 (r1.mono s2) r2 h2)
  · cases e
theorem de_part {apos : Pos} (ha : PE X a (tE X.K T W g)) (hb : PE X b (tE X.K T W h)) (hs : starEach [b] X.env = [(false, eval b X.env)] := by rfl) (hbase : attributeBase a "partition" X.env (eval a X.env) = eval a X.env := by rfl) (hline : (apos.endLine == pos.line) = true := by rfl) :
    PE X (.Call (.Attribute a "partition" apos) [b] [] pos) (tE X.K T W (eSt1 partD g h)) :=
  peImp (pe_partition ha hb hs hbase hline) fun σ H Q hh => st1_at (fun x y H Q hr => by
    obtain ⟨M, F, α, dx, dy, c, R, tx, ty, e, fin⟩ := hr
    unfold partD at e
    split at e
    · split at e
      · rename_i hc
        cases e
        obtain rfl := tx.str
        obtain rfl := ty.str
        exact ⟨_, _, rfl, rfl, hc.1, hc.2, fun p hp => fin.tup R (.cons (.str _) (.cons (.str _) (.cons (.str _) .nil))) hp⟩
      · cases e
    · cases e) hh
theorem reps_strs {K : PySem.W.Frag} {F : Hp} : ∀ ys : List Str, Reps K T F (ys.map V.str) (ys.map .str)
  | [] => .nil
  | y :: ys => .cons (.str y) (reps_strs ys)
theorem de_split {apos : Pos} (ha : PE X a (tE X.K T W g)) (hb : PE X b (tE X.K T W h)) (hs : starEach [b] X.env = [(false, eval b X.env)] := by rfl) (hbase : attributeBase a "split" X.env (eval a X.env) = eval a X.env := by rfl) (hline : (apos.endLine == pos.line) = true := by rfl) :
    PE X (.Call (.Attribute a "split" apos) [b] [] pos) (tE X.K T W (eSt1 splitD g h)) :=
  peImp (pe_split ha hb hs hbase hline) fun σ H Q hh => st1_at (fun x y H Q hr => by
    obtain ⟨M, F, α, dx, dy, c, R, tx, ty, e, fin⟩ := hr
    unfold splitD at e
    split at e
    · split at e
      · rename_i hc
        cases e
        obtain rfl := tx.str
        obtain rfl := ty.str
        exact ⟨_, _, rfl, rfl, hc.1, hc.2, fun p hp => fin.lst R (reps_strs _) hp⟩
      · cases e
    · cases e) hh
end
end Mi
namespace Mi
open PySem PySem.Spec PyProof.Rows L2
def slSD (x : PD) (lo hi : Option Int) : Option PD := match x with
  | .str z => if z.length ≤ sizeLine then some (.str (cutS z lo hi)) else none
  | _ => none
def eSlS (g : EX) (lo hi : OX) : EX := fun ρ M => bnd (g ρ M) fun x M1 => bnd (lo ρ M1) fun l M2 => bnd (hi ρ M2) fun h M3 => match dv M3 x with
  | some d => okD M3 (slSD d l h)
  | none => none
def intSD : List PD → Option PD
  | [.str a] => (match PySem.intText? a with
    | some n => if a.length ≤ 640 then some (.int n) else none
    | none => none)
  | _ => none
section
variable {X : Cx} {T : Tb} {W : WX} {g : EX} {lo hi : OX} {e : Expr} {pos p2 : Pos}
theorem de_slS {lo' hi' : Option Expr} (he : PE X e (tE X.K T W g)) (hl : PO X lo' (tO X.K T W lo)) (hh : PO X hi' (tO X.K T W hi)) : PE X (.Subscript e (.Slice lo' hi' none p2) pos) (tE X.K T W (eSlS g lo hi)) := by
  refine peImp (pe_slice sl_str he hl hh) fun σ H Q h => ?_
  obtain ⟨ρ, M, F, α, L, R, h⟩ := rd_to h
  refine rd_of L R (at_bind h fun x M1 v H1 F1 α1 s1 R1 r1 h1 => ?_)
  refine rd_of (L.mono s1) R1 (at_bind h1 fun l M2 l2 H2 F2 α2 s2 R2 r2 h2 => ?_)
  cases r2
  refine rd_of ((L.mono s1).mono s2) R2 (at_bind h2 fun u M3 u' H3 F3 α3 s3 R3 r3 h3 => ?_)
  cases r3
  obtain ⟨q, e, p⟩ := h3
  split at e
  · rename_i d hd
    cases hc : slSD d l u with
    | none => rw [hc] at e; cases e
    | some c =>
      rw [hc] at e
      have fin := end_of (W := W) (σ := σ) ⟨q, e, p⟩
      have tp := dv_top R3 ((r1.mono s2).mono s3) hd
      unfold slSD at hc
      split at hc
      · split at hc
        · cases hc
          obtain rfl := tp.str
          exact ⟨_, rfl, by assumption, fin.str R3⟩
        · cases hc
      · cases hc
  · cases e
theorem dc_intS : CallR X (.type "int") (rPN X.K T intSD) := by
  intro pins s σ H xs us Q I rx hw
  obtain ⟨M, F, α, ds, c, R, tx, e, fin⟩ := hw
  unfold intSD at e
  split at e
  · split at e
    · split at e
      · cases e
        obtain ⟨v, rfl, t⟩ := tx.one
        obtain rfl := t.str
        exact call_int_str pins s σ H _ us Q I rx ⟨_, _, rfl, by assumption, by assumption, fin.int R⟩
      · cases e
    · cases e
  · cases e
end
end Mi
namespace Mi
open PySem PySem.Spec PyProof.Rows L2
def isi2D (b c : String) (d : PD) : Option PD := match tyS d with
  | some a => some (.bl (isiT b a || isiT c a))
  | none => none
section
variable {X : Cx} {T : Tb} {W : WX} {g : EX} {e : Expr} {pos : Pos}
theorem de_isi2 {b c : String} {x y : Str} {pf px py pt : Pos} {k : Nat} (hb : kitOkB b = true) (hc : kitOkB c = true) (ha : PE X e (tE X.K T W g)) (hm : X.mg "isinstance" = none) (hmx : X.mg x = none) (hmy : X.mg y = none) (hbx : bootBuiltins x = some (.type b)) (hby : bootBuiltins y = some (.type c))
    (hg : Gl X "isinstance" := by rfl) (hgx : Gl X x := by rfl) (hgy : Gl X y := by rfl)
    (hx : x ≠ "__name__" := by decide) (hdx : (x == ("__debug__" : Str)) = false := by decide) (hy : y ≠ "__name__" := by decide) (hdy : (y == ("__debug__" : Str)) = false := by decide)
    (he1 : starEach [.Name x px, .Name y py] X.env = (false, eval (.Name x px) X.env) :: starEach [.Name y py] X.env := by rfl) (he0 : starEach [.Name y py] X.env = (false, eval (.Name y py) X.env) :: starEach [] X.env := by rfl)
    {tu : Expr} (htu : tu = .Tuple [.Name x px, .Name y py] k pt := by rfl)
    (he : starEach [e, tu] X.env = (false, eval e X.env) :: starEach [tu] X.env := by rfl) (he2 : starEach [tu] X.env = (false, eval tu X.env) :: starEach [] X.env := by rfl) (hpl : (backTo pos (starEach [tu] X.env)).any (·.1) = false := by rfl) :
    PE X (.Call (.Name "isinstance" pf) [e, tu] [] pos) (tE X.K T W (eUn (isi2D b c) g)) := by
  have h1 : PE X (.Name x px) (tC (.ty b)) := pe_bltn hgx hmx hbx rfl hx hdx
  have h2 : PE X (.Name y py) (tC (.ty c)) := pe_bltn hgy hmy hby rfl hy hdy
  have h3 : PE X tu _ := htu ▸ pe_tup (pa_cons h1 (pa_cons h2 pa_nil he0) he1)
  refine peImp (pe_callB call_isiT hg hm rfl (pa_cons ha (pa_cons h3 pa_nil he2) he) (by decide) (by decide) he hpl) fun σ H Q h => ?_
  obtain ⟨ρ, M, F, α, L, R, h⟩ := rd_to h
  refine rd_of L R (at_bind h fun z M1 v H1 F1 α1 s1 R1 r1 h1 => ?_)
  refine ⟨by show 2 ≤ sizeLine; decide, fun p hp => ?_⟩
  have R2 := R1.side (o := .tup [.ty b, .ty c]) hp
  obtain ⟨M2, F2, α2, dx, c', R3, tx, e, fin⟩ := at_op1 (f := isi2D b c) R2 r1 (at_step (step_side hp) h1)
  unfold isi2D at e
  split at e
  · rename_i a hd
    have q := Option.some.inj e
    subst q
    refine ⟨_, p, [.ty b, .ty c], _, [.type b, .type c], _, rfl, upd_same, .cons (.ty b) (.cons (.ty c) .nil), top_ty R3 tx hd, ?_, fin.bl R3⟩
    have k1 := kit_ty (K := X.K) (eq_of_beq (List.all_eq_true.mp hb a (tyS_mem hd)))
    have k2 := kit_ty (K := X.K) (eq_of_beq (List.all_eq_true.mp hc a (tyS_mem hd)))
    show PySem.W.kitAny X.K (.type a) [.type b, .type c] = some (isiT b a || isiT c a)
    unfold PySem.W.kitAny
    rw [k1]
    cases isiT b a with
    | true => rfl
    | false =>
      unfold PySem.W.kitAny
      rw [k2]
      cases isiT c a with
      | true => rfl
      | false => rfl
  · cases e
def sqD : VL → Option (List PD)
  | .d (.tup ds) => some ds
  | .d (.lst ds) => some ds
  | .d (.scr ds) => some ds
  | _ => none
def aStar (g : EX) (gs : AX) : AX := fun ρ M => bnd (g ρ M) fun x M1 => match sqD x with
  | some ds => bnd (gs ρ M1) fun xs M2 => some (.ok (ds.map VL.d ++ xs) M2)
  | none => none
def fmtD : PD → Option PD
  | .str y => if y.length ≤ sizeLine then some (.str y) else none
  | .int i => if i.natAbs.log2 < 1920 then some (.str (toString i)) else none
  | _ => none
def strK {α : Type} (x : VL) (f : Str → Option α) : Option α := match x with
  | .d (.str y) => f y
  | _ => none
def fsL : List EX → Str → EV → MH → Option (Rs Str)
  | [], acc, _, M => some (.ok acc M)
  | g :: gs, acc, ρ, M => bnd (g ρ M) fun x M1 => strK x fun y => if (acc ++ y).length ≤ sizeLine then fsL gs (acc ++ y) ρ M1 else none
theorem fsL_cons {g : EX} {gs : List EX} {acc : Str} {ρ : EV} {M : MH} : fsL (g :: gs) acc ρ M = bnd (g ρ M) fun x M1 => strK x fun y => if (acc ++ y).length ≤ sizeLine then fsL gs (acc ++ y) ρ M1 else none := rfl
def eFs (gs : List EX) : EX := fun ρ M => bnd (fsL gs Str.empty ρ M) fun y M1 => some (.ok (.d (.str y)) M1)
end
end Mi
namespace Mi
open PySem PySem.Spec PyProof.Rows L2
def stepL (a c : Int) (n : Nat) : List Int := (List.range n).map fun i => a + (i : Nat) * c
def rg3Ok (a b c : Int) : Bool := decide (0 < c) && decide (c.natAbs < 1073741824) && Builtin.Range.small a b c && decide (0 ≤ Builtin.Range.rangeSize a b c) && decide (Builtin.Range.rangeSize a b c ≤ 2 ^ 24)
def tupRg3 : List PD → Option PD
  | [.int a, .int b, .int c] => if rg3Ok a b c = true then some (.tup ((stepL a c (Builtin.Range.rangeSize a b c).toNat).map .int)) else none
  | _ => none
end Mi
namespace Mi
open PySem PySem.Spec PyProof.Rows L2
def sumX : List PD → Option PD
  | [.lst a] => (match intsOf a with
    | some bs => some (.int bs.sum)
    | none => none)
  | [.tup a] => (match intsOf a with
    | some bs => some (.int bs.sum)
    | none => none)
  | _ => none
section
variable {X : Cx} {T : Tb}
theorem dc_sum (hc : X.calm = true) : CallR X (.builtin "sum") (rPN X.K T sumX) := by
  intro pins s σ H xs us Q I rx hw
  obtain ⟨M, F, α, ds, c, R, tx, e, fin⟩ := hw
  unfold sumX at e
  split at e
  · split at e
    · rename_i h2
      obtain ⟨v, rfl, t⟩ := tx.one
      obtain ⟨a, xs, rfl, h1, r1⟩ := t.lst_sq R
      have q := Option.some.inj e
      subst q
      exact cr_sum hc pins s σ H _ us Q I rx ⟨_, _, rfl, by rw [← r1.ints h2]; exact h1, fin.int R⟩
    · cases e
  · split at e
    · rename_i ns h2
      obtain ⟨v, rfl, t⟩ := tx.one
      obtain ⟨a, xs, rfl, h1, _, r1⟩ := t.tup R
      have q := Option.some.inj e
      subst q
      have e3 := r1.ints h2
      subst e3
      obtain ⟨its, rv, hl, _⟩ := I.tuple h1
      rw [Vals.ref1 rx]
      have hi := rv.ints
      obtain ⟨ys, hx⟩ := hi.allInts.items
      have hn : numsOf its.toArray.toList = ns := by rw [show its.toArray.toList = its from rfl, hi.numsOf]
      have hl2 : s.heap.IsTuple a its.toArray := hl
      rw [hx] at hl2 hn
      rw [nums_intItems] at hn
      refine PySem.W.ktm_sumG (I.ok.hd hc) hl2 fun h' tk t' hk => ⟨.int ns.sum, H, I.kept hk, ⟨t', ?_⟩, fin.int R⟩
      rw [preSum_eq, List.take_of_length_le (by simp), hn]
    · cases e
  · cases e
end
end Mi
namespace Mi
open PySem PySem.Spec PyProof.Rows L2
def kD : Key → PD
  | .inl i => .int i
  | .inr x => .str x
def kOf : PD → Option Key
  | .int i => some (.inl i)
  | .str x => some (.inr x)
  | _ => none
def valD : List Key → List PD → Key → Option PD
  | k :: ks, d :: ds, x => if k = x then some d else valD ks ds x
  | _, _, _ => none
def setD : List Key → List PD → Key → PD → List PD
  | k :: ks, d :: ds, x, y => (if k = x then y else d) :: setD ks ds x y
  | _, ds, _, _ => ds
def memK (x : Key) (ks : List Key) : Bool := ks.any fun q => decide (q = x)
def putKs (ks : List Key) (x : Key) : List Key := if memK x ks = true then ks else ks ++ [x]
def putDs (ks : List Key) (ds : List PD) (x : Key) (y : PD) : List PD := if memK x ks = true then setD ks ds x y else ds ++ [y]
def inKD (x y : PD) : Option PD := match y with
  | .dct ks _ => (match kOf x with
    | some k => some (.bl (memK k ks))
    | none => none)
  | _ => none
def notinKD (x y : PD) : Option PD := match y with
  | .dct ks _ => (match kOf x with
    | some k => some (.bl (!memK k ks))
    | none => none)
  | _ => none
def idxKD (y x : PD) : Option PD := match y with
  | .dct ks ds => (match kOf x with
    | some k => valD ks ds k
    | none => none)
  | _ => none
def getKD (y x : PD) : Option PD := match y with
  | .dct ks ds => (match kOf x with
    | some k => some ((valD ks ds k).getD .non)
    | none => none)
  | _ => none
def lenKD : List PD → Option PD
  | [.dct ks _] => some (.int ks.length)
  | _ => none
def intKs : List Key → Option (List Int)
  | [] => some []
  | .inl i :: r => (match intKs r with
    | some ns => some (i :: ns)
    | none => none)
  | .inr _ :: _ => none
def sortedKD : List PD → Option PD
  | [.dct ks _] => (match intKs ks with
    | some ns => some (.lst ((srtI ns).map .int))
    | none => none)
  | _ => none
def isDc (M : MH) (x : VL) : Bool := match dv M x with
  | some (.dct _ _) => true
  | _ => false
def eMtD (f : PD → PD → Option PD) (g h : EX) : EX := fun ρ M => bnd (g ρ M) fun x M1 => if isDc M1 x = true then bnd (h ρ M1) fun y M2 => op2 f x y M2 else none
def eGetK (g h : EX) : EX := eMtD getKD g h
def putX (o i v : VL) (M : MH) : Option MH := match o, i, v with
  | .r k, .d x, .d y => (match M[k]?, kOf x with
    | some (.dct ks ds), some z => if ks.length < sizeLine then some (M.set k (.dct (putKs ks z) (putDs ks ds z y))) else none
    | _, _ => none)
  | _, _, _ => none
def sPut (go gi gv : EX) : SX := fun ρ M => bndS (gv ρ M) ρ fun v M1 => bndS (go ρ M1) ρ fun o M2 => bndS (gi ρ M2) ρ fun i M3 => match putX o i v M3 with
  | some M4 => some (.nx, ρ, M4)
  | none => none
def eMutC (mo : MO) : EX := fun _ M => some (.ok (.r M.length) (M ++ [mo]))
/-- the keys of a new dict, one by one; the dict is given up -/
def iKeyM (g : EX) : IX := fun ρ M => bnd (g ρ M) fun v M1 => match v with
  | .r k => (match M1[k]? with
    | some (.dct ks _) => some (.ok (ks.map kD) (M1.set k .gone))
    | _ => none)
  | .d _ => none
section
variable {X : Cx} {T : Tb} {W : WX} {g h : EX} {a b : Expr} {pos : Pos}
section
variable {K : PySem.W.Frag} {F : Hp}
theorem val_rel : ∀ {kvs : List (Key × V)} {ds : List PD} (k : Key), Reps K T F (kvs.map (·.2)) ds → (valD (kvs.map (·.1)) ds k = none ∧ valV kvs k = none) ∨ ∃ d v, valD (kvs.map (·.1)) ds k = some d ∧ valV kvs k = some v ∧ Rep K T F v d
  | [], _, k, r => .inl ⟨rfl, rfl⟩
  | (q, v) :: kvs, _, k, .cons (d := d) (ds := ds) r t => by
    by_cases e : q = k
    · refine .inr ⟨d, v, ?_, valV_pos e, r⟩
      show (if q = k then some d else _) = _
      rw [if_pos e]
    · have ih := val_rel (kvs := kvs) k t
      rw [valV_neg (p := (q, v)) e]
      show ((if q = k then some d else valD (kvs.map (·.1)) ds k) = none ∧ _) ∨ ∃ d' v', (if q = k then some d else valD (kvs.map (·.1)) ds k) = some d' ∧ _
      rw [if_neg e]
      exact ih
theorem val_mem : ∀ {kvs : List (Key × V)} (k : Key), (valV kvs k).isSome = memK k (kvs.map (·.1))
  | [], k => rfl
  | (q, v) :: kvs, k => by
    show _ = (decide (q = k) || memK k (kvs.map (·.1)))
    by_cases e : q = k
    · rw [valV_pos (p := (q, v)) e]
      simp [e]
    · rw [valV_neg (p := (q, v)) e, val_mem k]
      simp [e]
theorem any_mem {kvs : List (Key × V)} {k : Key} : (kvs.any fun kv => decide (kv.1 = k)) = memK k (kvs.map (·.1)) := by
  unfold memK
  rw [List.any_map]
  rfl
theorem put_keys {kvs : List (Key × V)} {k : Key} {v : V} : (putK kvs k v).map (·.1) = putKs (kvs.map (·.1)) k := by
  unfold putK putKs
  rw [any_mem]
  by_cases h : memK k (kvs.map (·.1)) = true
  · rw [if_pos h, if_pos h, List.map_map]
    refine List.map_congr_left fun p _ => ?_
    show (if p.1 = k then (p.1, v) else p).1 = p.1
    split <;> rfl
  · rw [if_neg h, if_neg h, List.map_append]
    rfl
theorem set_rel : ∀ {kvs : List (Key × V)} {ds : List PD} {k : Key} {v : V} {d : PD}, Reps K T F (kvs.map (·.2)) ds → Rep K T F v d → Reps K T F ((kvs.map fun kv => if kv.1 = k then (kv.1, v) else kv).map (·.2)) (setD (kvs.map (·.1)) ds k d)
  | [], _, k, v, d, .nil, _ => .nil
  | (q, z) :: kvs, _, k, v, d, .cons (d := d0) (ds := ds) r t, rv => by
    have ih := set_rel (kvs := kvs) (k := k) t rv
    show Reps K T F ((if q = k then (q, v) else (q, z)).2 :: _) ((if q = k then d else d0) :: _)
    refine .cons ?_ ih
    by_cases e : q = k
    · rw [if_pos e, if_pos e]; exact rv
    · rw [if_neg e, if_neg e]; exact r
theorem put_vals {kvs : List (Key × V)} {ds : List PD} {k : Key} {v : V} {d : PD} (r : Reps K T F (kvs.map (·.2)) ds) (rv : Rep K T F v d) : Reps K T F ((putK kvs k v).map (·.2)) (putDs (kvs.map (·.1)) ds k d) := by
  unfold putK putDs
  rw [any_mem]
  by_cases h : memK k (kvs.map (·.1)) = true
  · rw [if_pos h, if_pos h]
    exact set_rel r rv
  · rw [if_neg h, if_neg h, List.map_append]
    exact r.append (.cons rv .nil)
theorem intKs_eq : ∀ {ks : List Key} {ns : List Int}, intKs ks = some ns → ks = ns.map Sum.inl
  | [], ns, e => by cases e; rfl
  | .inl i :: r, ns, e => by
    unfold intKs at e
    cases h : intKs r with
    | none => rw [h] at e; cases e
    | some ms =>
      rw [h] at e
      cases e
      rw [intKs_eq h]
      rfl
  | .inr _ :: _, ns, e => by cases e
end
theorem top_key {F H : Hp} {v : V} {d : PD} {k : Key} (t : Top X.K T F H v d) (e : kOf d = some k) : v = kV k := by
  cases d with
  | int i => cases e; exact t.int
  | str x => cases e; exact t.str
  | _ => cases e
theorem dop_notinK (hu : X.A.units + 64 < cLine) : OpR X (compareOp .NotIn) (rP2 X.K T notinKD) := by
  intro pins s σ H x y v w Q I rx ry hw
  obtain ⟨M, F, α, dx, dy, c, R, tx, ty, e, fin⟩ := hw
  unfold notinKD at e
  split at e
  · split at e
    · rename_i k hk
      cases e
      obtain ⟨p, kvs, rfl, rd, e1, r1⟩ := ty.dct R
      subst e1
      obtain rfl := top_key tx hk
      cases ry
      refine d_notIn (by omega) I (.inl ⟨kvs, k, rd, rfl, rfl⟩) rx fun s' I' => ⟨.bl (!memK k (kvs.map (·.1))), H, I', ?_, fin.bl R⟩
      rw [val_mem]
      exact rfl
    · cases e
  · cases e
theorem dc_lenK : CallR X (.builtin "len") (rPN X.K T lenKD) := by
  intro pins s σ H xs us Q I rx hw
  obtain ⟨M, F, α, ds, c, R, tx, e, fin⟩ := hw
  unfold lenKD at e
  split at e
  · cases e
    obtain ⟨v, rfl, t⟩ := tx.one
    obtain ⟨p, kvs, rfl, rd, e1, r1⟩ := t.dct R
    subst e1
    rw [Vals.ref1 rx]
    refine d_len I rd fun t s' I' => ⟨.int kvs.length, H, I', ⟨t, rfl⟩, ?_⟩
    have := fin.int R
    rw [List.length_map] at this
    exact this
  · cases e
theorem de_kidx (hu : X.A.units + 64 < cLine) (ha : PE X a (tE X.K T W g)) (hb : PE X b (tE X.K T W h)) (hs : NoSl b := by exact fun _ _ => rfl) : PE X (.Subscript a b pos) (tE X.K T W (eBin idxKD g h)) := by
  refine peImp (pe_dget (by omega) ha hb hs) fun σ H Q hh => ?_
  obtain ⟨ρ, M, F, α, L, R, hh⟩ := rd_to hh
  refine rd_of L R (at_bind hh fun x M1 v H1 F1 α1 s1 R1 r1 h1 => ?_)
  refine rd_of (L.mono s1) R1 (at_bind h1 fun y M2 w H2 F2 α2 s2 R2 r2 h2 => ?_)
  obtain ⟨M3, F3, α3, dx, dy, c, R3, tx, ty, e, fin⟩ := at_op2 R2 (r1.mono s2) r2 h2
  unfold idxKD at e
  split at e
  · split at e
    · rename_i k hk
      obtain ⟨p, kvs, rfl, rd, e1, r3⟩ := tx.dct R3
      subst e1
      obtain rfl := top_key ty hk
      rcases val_rel k r3 with ⟨z, _⟩ | ⟨d, v', z1, z2, z3⟩
      · rw [z] at e; cases e
      · rw [z1] at e
        cases e
        exact ⟨p, v', rfl, .inl ⟨kvs, k, rd, rfl, z2.symm⟩, fin.old R3 z3⟩
    · cases e
  · cases e
theorem de_kget1 {apos : Pos} (hu : X.A.units + 64 < cLine) (ha : PE X a (tE X.K T W g)) (hb : PE X b (tE X.K T W h)) (m : M1 X a "get" apos b pos := by exact ⟨rfl, rfl, rfl, rfl⟩) : PE X (.Call (.Attribute a "get" apos) [b] [] pos) (tE X.K T W (eGetK g h)) := by
  refine peImp (pe_dget1 (by omega) ha hb m) fun σ H Q hh => ?_
  obtain ⟨ρ, M, F, α, L, R, hh⟩ := rd_to hh
  refine rd_of L R (at_bind hh fun x M1 v H1 F1 α1 s1 R1 r1 h1 => ?_)
  obtain ⟨q, e, p⟩ := h1
  split at e
  · rename_i hl
    have hd : ∃ ks ds, dv M1 x = some (.dct ks ds) := by
      unfold isDc at hl
      split at hl
      · rename_i ks ds hdv
        exact ⟨ks, ds, hdv⟩
      · cases hl
    obtain ⟨ks, ds, hd⟩ := hd
    obtain ⟨p1, kvs, rfl, rd, e1, r3⟩ := (dv_top R1 r1 hd).dct R1
    refine ⟨p1, rfl, .inl ⟨kvs, rd⟩, rd_of (L.mono s1) R1 (at_bind (W := W) (σ := σ) ⟨q, e, p⟩ fun y M2 w H2 F2 α2 s2 R2 r2 h2 => ?_)⟩
    obtain ⟨M3, F3, α3, dx, dy, c, R3, tx, ty, e, fin⟩ := at_op2 R2 (r1.mono s2) r2 h2
    unfold getKD at e
    split at e
    · split at e
      · rename_i k hk
        cases e
        obtain ⟨p2, kvs2, e2, rd2, e3, r4⟩ := tx.dct R3
        cases e2
        subst e3
        obtain rfl := top_key ty hk
        rcases val_rel k r4 with ⟨z, z2⟩ | ⟨d, v', z1, z2, z3⟩
        · refine ⟨none, .inl ⟨kvs2, k, rd2, rfl, z2.symm⟩, ?_⟩
          rw [z] at fin
          exact fin.old R3 .non
        · refine ⟨some v', .inl ⟨kvs2, k, rd2, rfl, z2.symm⟩, ?_⟩
          rw [z1] at fin
          exact fin.old R3 z3
      · cases e
    · cases e
  · cases e
theorem ds_put {pos' : Pos} {o i value : Expr} {go gi gv : EX} (hu : X.A.units + 64 < cLine) (ho : PE X o (tE X.K T W go)) (hi : PE X i (tE X.K T W gi)) (hv : PE X value (tE X.K T W gv)) (hs : swapsWith value (some (.Subscript o i pos')) pos.line X.env = pure false := by rfl) :
    PS X (.Assign [.Subscript o i pos'] value pos) (tS X.K T W (sPut go gi gv)) := by
  refine psImp (ps_dput (by omega) ho hi hv hs) fun D σ H hh => ?_
  obtain ⟨ρ, M, F, α, L, R, hh⟩ := tS_to hh
  refine rd_of L R (atS_bind L hh fun v M1 u H1 F1 α1 s1 R1 r1 h1 => ?_)
  refine rd_of (L.mono s1) R1 (atS_bind (L.mono s1) h1 fun o M2 w H2 F2 α2 s2 R2 r2 h2 => ?_)
  refine rd_of ((L.mono s1).mono s2) R2 (atS_bind ((L.mono s1).mono s2) h2 fun j M3 z H3 F3 α3 s3 R3 r3 h3 => ?_)
  obtain ⟨q, e, po⟩ := h3
  cases hx : putX o j v M3 with
  | none => rw [hx] at e; cases e
  | some M4 =>
    rw [hx] at e
    dsimp only at e
    unfold putX at hx
    split at hx
    · rename_i k dx dy
      split at hx
      · rename_i ks ds z' hm hk
        split at hx
        · rename_i hl
          cases hx
          have r2' := r2.mono s3
          obtain ⟨p, ep, rfl⟩ := r2'
          obtain ⟨kvs, hH, e1, r4⟩ := R3.obj k _ p hm ep
          subst e1
          have ek : z = kV z' := top_key (X := X) (T := T) (F := F3) (H := H3) (.inl r3) hk
          have rv := (r1.mono s2).mono s3
          refine ⟨p, _, rfl, .inl ⟨kvs, z', hH, ek, by simpa using hl, rfl⟩, ?_⟩
          have R4 := R3.write (o := .dK (putK kvs z' u)) (mo := .dct (putKs (kvs.map (·.1)) z') (putDs (kvs.map (·.1)) ds z' dy)) ep (by rw [hm]; simp) ⟨_, upd_same, put_keys, put_vals r4 rv⟩
          have s4 : Step H3 F3 α3 (upd H3 p (.dK (putK kvs z' u))) F3 α3 := step_write ep
          exact atS_nx ((((L.mono s1).mono s2).mono s3).mono s4) R4 (atS_step (W := W) s4 ⟨q, e, po⟩)
        · cases hx
      · cases hx
    · cases hx
section
variable {K : PySem.W.Frag} {F H : Hp} {α : List Addr} {M : MH}
theorem RepVs.same {F' : Hp} (e : Same F F') : ∀ {vs : List V} {xs : List VL}, RepVs K T F α vs xs → RepVs K T F' α vs xs
  | _, _, .nil => .nil
  | _, _, .cons (d := .d x) r t => .cons (d := .d x) (Rep.mono e r) (RepVs.same e t)
  | _, _, .cons (d := .r k) r t => .cons (d := .r k) r (RepVs.same e t)
/-- a mutable object is given up: from now on it stands still -/
theorem HR.still {k : Nat} {d : Addr} {u : HO} (R : HR K T H M F α) (ha : α[k]? = some d) (hg : M[k]? ≠ some MO.gone) : HR K T (upd H d u) (M.set k .gone) (upd F d u) α ∧ Step H F α (upd H d u) (upd F d u) α := by
  have R1 := R.write (o := u) (mo := .gone) ha hg trivial
  have hF : F d = none := R.sep k d ha hg
  have sF : Same F (upd F d u) := same_new hF
  refine ⟨⟨fun a o e => ?_, R1.len, R1.nd, R1.al, fun j a e z => ?_, fun j mo a e1 e2 => ?_, R1.old, fun q hq => ⟨(R1.tab q hq).1.mono rfl sF, by rw [upd_ne (fun z => (R1.tab q hq).2.2 (by rw [z]; exact List.mem_of_getElem? ha))]; exact (R1.tab q hq).2.1, (R1.tab q hq).2.2⟩⟩, ⟨sF, ⟨[], by simp⟩, fun a o e n f => ?_⟩⟩
  · by_cases q : a = d
    · subst q
      rw [upd_same] at e
      cases e
      exact .inl upd_same
    · rw [upd_ne q] at e
      exact R1.fr a o e
  · by_cases q : a = d
    · subst q
      exfalso
      obtain ⟨l1, q1⟩ := List.getElem?_eq_some_iff.mp ha
      obtain ⟨l2, q2⟩ := List.getElem?_eq_some_iff.mp e
      have : j = k := (List.getElem_inj R.nd).mp (q2.trans q1.symm)
      subst this
      have hk : j < M.length := by have := R.len; omega
      exact z (by rw [List.getElem?_set_self hk])
    · rw [upd_ne q]
      exact R1.sep j a e z
  · have h0 := R1.obj j mo a e1 e2
    cases mo with
    | lst ds => obtain ⟨xs, h1, h2⟩ := h0; exact ⟨xs, h1, h2.mono sF⟩
    | dct ks ds => obtain ⟨kvs, h1, h2, h3⟩ := h0; exact ⟨kvs, h1, h2, h3.mono sF⟩
    | ins c gs => obtain ⟨dx, fs, h1, h2⟩ := h0; exact ⟨dx, fs, h1, h2.1, h2.2.same sF⟩
    | dcr ks gs => obtain ⟨kvs, h1, h2, h3⟩ := h0; exact ⟨kvs, h1, h2, h3.same sF⟩
    | dtp ks ds => obtain ⟨kvs, h1, h2, h3⟩ := h0; exact ⟨kvs, h1, h2, h3.mono sF⟩
    | tpm ks => exact h0
    | gone => trivial
  · have q : a ≠ d := fun q => n (q ▸ List.mem_of_getElem? ha)
    exact ⟨KpT.of (by rw [upd_ne q]; exact e), by rw [upd_ne q]; exact f, n⟩
theorem rep_key {F : Hp} : ∀ k : Key, Rep K T F (kV k) (kD k)
  | .inl i => .int i
  | .inr x => .str x
theorem jok_keys {d : Addr} {o : Obj} {kvs : List (Key × V)} (hF : F d = some (.frz o (.dK kvs))) : Jok K T (Itk d o kvs) F ((kvs.map (·.1)).map kD) := fun H' M' F' α' sm R i => by
  have hl : ((kvs.map (·.1)).map kD).length = kvs.length := by rw [List.length_map, List.length_map]
  rw [hl]
  have hd : H' d = some (.frz o (.dK kvs)) := by
    rcases R.fr d _ (sm _ _ hF) with q | ⟨_, _, q, _⟩
    · exact q
    · cases q
  refine ⟨fun h => ⟨⟨hd, h⟩, fun x H2 y => ?_⟩, fun h => ⟨hd, h⟩⟩
  obtain ⟨e, k, v, e1, e2⟩ := y
  subst e e2
  refine ⟨F', R, Step.refl, kD k, ?_, rep_key k⟩
  rw [List.getElem?_map, List.getElem?_map, e1]
  rfl
end
def iKeysN (td : TE) : TI := fun σ H Rr => td σ H fun x H1 => ∃ d kvs, x = .ref d ∧ H1 d = some (.dK kvs) ∧ ∀ o, Rr (Itk d o kvs) (upd H1 d (.frz o (.dK kvs)))
theorem pi_keysN {tg : Expr} {td : TE} (he : PE X a td) : PI X tg a (iKeysN td) := by
  refine ⟨fun pl t τ G Rr J hw => ?_⟩
  refine thn (he.run pl t τ G _ J hw) fun u t1 ⟨x, G1, J1, rx, d, kvs, ex, hd, fin⟩ => ?_
  subst ex
  cases rx
  obtain ⟨od, J2⟩ := J1.lock hd trivial
  obtain ⟨z1, z2, z3, es, ep, vs, z4, z5, z6, z7⟩ := J2.frzK (upd_same (H := G1))
  refine iter_keys z1 z2 z3 z4 (pi_one (tk := t1.toks) J2 _ (turn_keys _ z4) ?_ (fin od))
  exact ⟨_, Heap.get?_push_size _ rfl, rfl, by rw [z5]; rfl⟩
theorem di_keyM {tg : Expr} (he : PE X a (tE X.K T W g)) : PI X tg a (iD X.K T W (iKeyM g)) := by
  refine piImp (pi_keysN he) fun σ H Rr hh => ?_
  obtain ⟨ρ, M, F, α, L, R, hh⟩ := rd_to hh
  refine rd_of L R (at_bind hh fun x M1 v H1 F1 α1 s1 R1 r1 h1 => ?_)
  obtain ⟨q, e, p⟩ := h1
  split at e
  · rename_i k
    split at e
    · rename_i ks ds hm
      cases e
      obtain ⟨d, hd, rfl⟩ := r1
      obtain ⟨kvs, hH, e1, r2⟩ := R1.obj k _ d hm hd
      subst e1
      refine ⟨d, kvs, rfl, hH, fun o => ?_⟩
      obtain ⟨R2, s2⟩ := R1.still (u := .frz o (.dK kvs)) hd (by rw [hm]; simp)
      exact at_okS (W := W) (σ := σ) s2 R2 ⟨_, rfl, p⟩ (jok_keys upd_same)
    · cases e
  · cases e
end
end Mi
namespace Mi
open PySem PySem.Spec PyProof.Rows L2
section
variable {P : Program} {w : World} {A : Around} {E : Value → Shared → Prop} {s : Shared} {r d : Addr} {n : Nat} {Tn : String} {Pn : Nat → Value → Prop} {OK : Heap → Prop}
/-- what a source of items gives, gathered -/
theorem gather {Q : List Value → Shared → Prop} (K : PySem.W.KdlSrc P w Tn r d n Pn OK) (hh : A.handled = none) (hok : OK s.heap) (hn : n ≤ sizeLine)
    (hQ : ∀ h' tk acc, (∀ b o, s.heap.get? b = some o → h'.get? b = some o) → s.heap.objs.size < h'.objs.size → ItemsOf Pn acc n → Q acc.toList { s with heap := h', toks := tk }) : wpAny (model P w) A (collect (.ref r)) Q E s := by
  unfold collect
  refine wpAny_bind (wpAny_runValue (codeAny_builtin F.entry_proto_collect ?_))
  rw [Around.under_plainId F.plain_proto_collect _]
  refine wpAny_bind (m := newList []) (wpAny_newObj_type ?_)
  refine wpAny_pure ⟨plainId_quiet F.plain_list_iadd _, codeAny_builtin F.entry_list_iadd ?_⟩
  rw [Around.under_plainId F.plain_list_iadd _]
  obtain ⟨lr, ld⟩ := K.there _ hok
  have h0 : (s.heap.push { cls := .type "list", data := .seq ([] : List Value).toArray }).get? s.heap.objs.size = some { cls := .type "list", data := .seq #[] 0 } := Heap.get?_push_size _ rfl
  let R' : Result → Shared → Prop := fun z u => ∃ h' tk acc c', z = .ok (.ret (.ref s.heap.objs.size)) ∧ u = { s with heap := h', toks := tk } ∧ (∀ b o, s.heap.get? b = some o → h'.get? b = some o) ∧ h'.get? s.heap.objs.size = some { cls := .type "list", dict := none, data := .seq acc c', slots := #[] } ∧ ItemsOf Pn acc n
  have fin : ∀ u z, R' z u → ∃ h' tk acc c', z = .ok (.ret (.ref s.heap.objs.size)) ∧ u = { s with heap := h', toks := tk } ∧ wpAny (model P w) A (load s.heap.objs.size) (fun ob u' => ob = { cls := .type "list", dict := none, data := .seq acc c', slots := #[] } ∧ u' = u ∧ Q acc.toList u) E u := by
    rintro u z ⟨h', tk, acc, c', e1, e2, e3, e4, e5⟩
    refine ⟨h', tk, acc, c', e1, e2, ?_⟩
    subst e2
    exact wpAny_load e4 ⟨rfl, rfl, hQ h' tk acc e3 (Heap.lt_size e4) e5⟩
  have key := PySem.W.kdl_extend (s := { s with heap := s.heap.push { cls := .type "list", data := .seq ([] : List Value).toArray } }) (R := R') K hh (K.keep _ _ hok fun b _ o e => Heap.get?_push_of_some _ e) s.heap.objs.size (Nat.ne_of_gt lr) (Nat.ne_of_gt ld) (.ref s.heap.objs.size) 0 h0 (fun h' tk acc c' hk hS hacc => ⟨h', tk, acc, c', rfl, rfl, fun b o e => hk b o (Nat.ne_of_lt (Heap.lt_size e)) (Heap.get?_push_of_some _ e), hS, hacc⟩) hn
  refine wpAny_mono (show wpAny (model P w) A.in1 (Builtin.«list.__iadd__» ⟨[.ref s.heap.objs.size, .ref r], []⟩) _ _ _ from key) (fun z u hz => ?_) (fun e u hz => ?_)
  · cases z with
    | done f =>
      obtain ⟨h', tk, acc, c', e1, e2, e3⟩ := fin u _ hz
      cases e1
      refine wpAny_bind (m := load s.heap.objs.size) (wpAny_mono e3 (fun ob u' z => ?_) fun _ _ z => z)
      obtain ⟨rfl, rfl, z⟩ := z
      exact wpAny_pure z
    | again c =>
      refine ⟨hz.1, codeAny_mono hz.2 fun z u' hz' => ?_⟩
      obtain ⟨h', tk, acc, c', e1, e2, e3⟩ := fin u' _ hz'
      subst e1
      refine wpAny_bind (m := load s.heap.objs.size) (wpAny_mono e3 (fun ob u' z => ?_) fun _ _ z => z)
      obtain ⟨rfl, rfl, z⟩ := z
      exact wpAny_pure z
  · obtain ⟨h', tk, acc, c', e1, _⟩ := hz
    cases e1
theorem sorted_src {ns : List Int} {Q : Value → Shared → Prop} (K : PySem.W.KdlSrc P w Tn r d n Pn OK) (hh : A.handled = none) (hok : OK s.heap) (hn : n ≤ sizeLine) (hP : ∀ acc : Array Value, ItemsOf Pn acc n → IntsAre acc.toList ns)
    (hQ : ∀ h' tk p (out : Array Value) (c : Nat) (ms : List Int), (∀ b o, s.heap.get? b = some o → h'.get? b = some o) → s.heap.objs.size ≤ p →
      h'.get? p = some (seqObj "list" out c) → IntsAre out.toList ms → ms.Pairwise (· ≤ ·) → ms.Perm ns → Q (.ref p) { s with heap := h', toks := tk }) :
    wpAny (model P w) A (call (.builtin "sorted") [.ref r]) Q E s := by
  refine Calls.call_function_entry kind_sorted plain_sorted entry_sorted (args_sorted1 _) ?_
  unfold Builtin.«sorted»
  refine wpAny_bind (m := checkCount "sorted" 1 1 _) (wpAny_pure ?_)
  refine wpAny_bind (gather (A := A.in1) K hh hok hn fun h1 tk acc k1 hz hacc => ?_)
  have hI := hP acc hacc
  have ln : acc.toList.length ≤ sizeLine := by
    have := hacc.1
    rw [Array.length_toList]
    omega
  refine wpAny_bind (wpAny_newList ?_ ln)
  have at0 : (h1.push (seqObj "list" acc.toList.toArray 0)).get? h1.objs.size = some (seqObj "list" acc.toList.toArray 0) := Heap.get?_push_size _ rfl
  refine wpAny_bind (wpAny_holding (wpAny_call_entry slot_list_sort ⟨_, at0, rfl⟩ entry_list_sort (SrtO.list_sort_ord SrtO.swo_int at0 ln (fun z => SrtO.ints_sortable hI z) fun out z1 z2 => ⟨_, rfl, ?_⟩) (args_list_sort _)))
  obtain ⟨y1, y2, y3⟩ := SrtO.ints_out hI z1 z2
  obtain ⟨c, hc⟩ := sortedHeap_at (vs := acc.toList) (out := out.toArray) at0
  refine wpAny_pure ⟨_, rfl, hQ _ _ h1.objs.size out.toArray c (out.map SrtO.iv) (fun b u e => ?_) (by omega) hc y1 y3 y2⟩
  have q := k1 b u e
  have lt1 := Heap.lt_size q
  show (sortedHeap (h1.push (seqObj "list" acc.toList.toArray 0)) h1.objs.size acc.toList out.toArray).get? b = some u
  rw [sortedHeap_old (Nat.ne_of_lt lt1) (by rw [size_push']; exact Nat.lt_succ_of_lt lt1)]
  exact Heap.get?_push_of_some _ q
end
section
variable {X : Cx} {T : Tb}
theorem ints_at {P : Program} {w : World} : ∀ (us : List Value) (ns : List Int), us.length = ns.length → (∀ (j : Nat) (u : Value) (n : Int), us[j]? = some u → ns[j]? = some n → ∃ t, u = .int n t) → IntsAre us ns
  | [], [], _, _ => .nil
  | [], _ :: _, h, _ => by simp at h
  | _ :: _, [], h, _ => by simp at h
  | u :: us, n :: ns, h, f => by
    obtain ⟨t, e⟩ := f 0 u n rfl rfl
    subst e
    exact .cons n t (ints_at (P := P) (w := w) us ns (by simpa using h) fun j u' n' h1 h2 => f (j + 1) u' n' (by simpa using h1) (by simpa using h2))
theorem dc_sortedK (hc : X.calm = true) : CallR X (.builtin "sorted") (rPN X.K T sortedKD) := by
  intro pins s σ H xs us Q I rx hw
  obtain ⟨M, F, α, ds, c, R, tx, e, fin⟩ := hw
  unfold sortedKD at e
  split at e
  · split at e
    · rename_i ns hns
      cases e
      obtain ⟨v, rfl, t⟩ := tx.one
      obtain ⟨p, kvs, rfl, rd, e1, r1⟩ := t.dct R
      subst e1
      have ek := intKs_eq hns
      rw [Vals.ref1 rx]
      obtain ⟨z, lo, vs, kv, hd⟩ := dk_rd I.hok rd
      obtain ⟨ep, hat⟩ := hd.dictAt
      have hl : kvs.length = vs.length := Paired.length kv
      have hln : kvs.length = ns.length := by
        have := congrArg List.length ek
        simpa using this
      refine sorted_src (ns := ns) (PySem.W.kdl_dict (knd := mixKind X.prog X.w) (kvs := vs) (ep := ep) lo) (I.ok.hd hc) hat (by rw [← hl]; exact z) (fun acc hacc => ?_) fun h' tk q out c ms keep hq hg hi hs hp => ?_
      · refine ints_at (P := X.prog) (w := X.w) _ _ (by rw [Array.length_toList, hacc.1, ← hl, hln]) fun j u n h1 h2 => ?_
        obtain ⟨k, y, hky, hi⟩ := hacc.2 j u (by rw [← Array.getElem?_toList]; exact h1)
        have e2 : (kvs.map (·.1))[j]? = some k := by
          rw [KV.keys kv, List.getElem?_map, hky]
          rfl
        rw [ek, List.getElem?_map, h2] at e2
        cases e2
        exact keyIs_rel (k := .inl n) (v := u) hi
      · have hnew : H q = none := I.hok.fresh hq
        have hlen : (ms.map V.int).length ≤ sizeLine := by rw [List.length_map, hp.length_eq, ← hln]; exact z
        have em : ms = srtI ns := by
          refine srt_uniq (hp.trans (List.mergeSort_perm ns _).symm) hs ?_
          have := List.pairwise_mergeSort (le := fun a b : Int => decide (a ≤ b)) (by intro a b c h1 h2; simp only [decide_eq_true_eq] at *; omega) (by intro a b; simp only [Bool.or_eq_true, decide_eq_true_eq]; omega) ns
          unfold srtI
          exact this.imp fun {a b} h => by simpa using h
        have J : Inv X pins σ (upd H q (.lst (ms.map V.int))) { s with heap := h', toks := tk } := I.laid (t' := tk) keep hq (show ObjOk X.prog X.w _ _ _ (.lst (ms.map V.int)) from ⟨hlen, out.toList, c, vals_of_ints hi, hg⟩)
        refine ⟨.ref q, _, J, rfl, ?_⟩
        rw [em]
        exact fin.lst R (reps_ints _) hnew
    · cases e
  · cases e
theorem de_dsp00 {X : Cx} {T : Tb} {W : WX} {pos p1 p2 : Pos} {j1 j2} : PE X (.Dict [some (.Constant (.int 0) j1 p1)] [.Constant (.int 0) j2 p2] pos) (tE X.K T W (eMutC (.dct [.inl 0] [.int 0]))) := by
  refine peImp (pe_disp (pps_cons pe_int pe_int pps_nil) rfl rfl (fun z => by cases z) (by show 1 ≤ 15; decide)) fun σ H Q hh => ?_
  obtain ⟨ρ, M, F, α, L, R, q, e, po⟩ := hh
  cases e
  intro p hp
  refine ⟨upd_same, [(.inl 0, .int 0)], rfl, by decide, ?_⟩
  rw [upd_upd]
  refine at_okS (W := W) (σ := σ) (v := V.ref p) (step_mut (o := .dK (mergeK [] [(.inl 0, .int 0)])) R hp) (HR.mut (mo := MO.dct [.inl 0] [.int 0]) R hp ⟨_, upd_same, rfl, .cons (.int 0) .nil⟩) ⟨_, rfl, po⟩ ⟨p, ?_, rfl⟩
  rw [List.getElem?_append_right (by rw [R.len]; exact Nat.le_refl _), R.len]
  simp
end
end Mi
namespace Mi
open PySem PySem.Spec PyProof.Rows L2
abbrev AcX := EV → List Key → List PD → MH → Option (List Key × List PD × MH)
def dcW (bd : PD → EV → Option EV) (ac : AcX) : List PD → EV → List Key → List PD → MH → Option (List Key × List PD × MH)
  | [], _, ks, zs, M => some (ks, zs, M)
  | d :: r, ρ, ks, zs, M => match bd d ρ with
    | some ρ1 => (match ac ρ1 ks zs M with
      | some (ks1, zs1, M1) => dcW bd ac r ρ ks1 zs1 M1
      | none => none)
    | none => none
def ac1 (ek ev : EX) : AcX := fun ρ ks zs M => match okOnly (ek ρ M) with
  | some (.d kx, M1) => (match okOnly (ev ρ M1), kOf kx with
    | some (.d v, M2), some k => if ks.length < sizeLine then some (putKs ks k, putDs ks zs k v, M2) else none
    | _, _ => none)
  | _ => none
def ac2 (vs1 : List Nat) (bd : PD → EV → Option EV) (it : IX) (ac : AcX) : AcX := fun ρ ks zs M => match okOnly (it ρ M) with
  | some (ds, M1) => dcW bd ac ds (wipeE ρ vs1) ks zs M1
  | none => none
def eDc (vs : List Nat) (bd : PD → EV → Option EV) (it : IX) (ac : AcX) : EX := fun ρ M => bnd (it ρ M) fun ds M1 => match dcW bd ac ds (wipeE ρ vs) [] [] M1 with
  | some (ks, zs, M2) => some (.ok (.r M2.length) (M2 ++ [.dct ks zs]))
  | none => none
/-- what stands behind a part of the loop -/
def AccP (Y : Cx) (T : Tb) (D : Addr) (pl : List (Addr × Obj)) (τ : L2.St) (H F : Hp) (α : List Addr) (ks : List Key) (zs : List PD) (M : MH) (u : Shared) (H' : Hp) : Prop :=
  ∃ F' α' kvs, L2.Inv Y pl τ H' u ∧ HR Y.K T H' M F' α' ∧ Step (upd H D (.dK [])) F α (upd H' D (.dK [])) F' α' ∧ H' D = some (.dK kvs) ∧ F' D = none ∧ D ∉ α' ∧ kvs.map (·.1) = ks ∧ Reps Y.K T F' (kvs.map (·.2)) zs
def StepOk (Y : Cx) (T : Tb) (D : Addr) (vs : List Nat) (step : Sem Fin) (c : Code) (ac : AcX) : Prop :=
  ∀ (pl : List (Addr × Obj)) (u : Shared) (τ : L2.St) (ρ : EV) (H F : Hp) (α : List Addr) (M : MH) (kvs : List (Key × V)) (zs : List PD) (ks' : List Key) (zs' : List PD) (M' : MH),
    LR Y.K T F α τ ρ → HR Y.K T H M F α → H D = some (.dK kvs) → F D = none → D ∉ α → Reps Y.K T F (kvs.map (·.2)) zs → ac ρ (kvs.map (·.1)) zs M = some (ks', zs', M') → L2.Inv Y pl τ H u →
    wpAny (model Y.prog Y.w) Y.A step (fun fin u' => fin = .again c ∧ ∃ H', AccP Y T D pl (L2.wipe τ vs) H F α ks' zs' M' u' H') (fun _ _ => False) u
section
variable {Y : Cx} {T : Tb} {D : Addr} {E tg : Expr} {k : Nat} {it : Addr} {acc : Value} {p : Pos} {step : Sem Fin} {J : It} {fp : List Addr} {tn : Nat → Heap → Prop} {pl : List (Addr × Obj)} {τ : L2.St} {g : TG} {R : Result → Shared → Prop}
/-- the loop of a clause: W tells what stands ahead of turn i -/
theorem walk_loop (hE : compTurn E k (.ref it) acc Y.env = (standAt p >>= fun _ => pyNext (.ref it) >>= fun r => match r with
      | none => pure (.done .next)
      | some v => letOwnedTupleGo tg (.ref it) v >>= fun _ => assign tg Y.env v >>= fun _ => step))
    (hd : (model Y.prog Y.w).den (.compLoop E k (.ref it) acc Y.env) = (compTurn E k (.ref it) acc Y.env).onRaise (fun e => do noteFrame e Y.env; theTreesLotGoes e)) (hu : Y.A.under (.compLoop E k (.ref it) acc Y.env) = Y.A)
    (hc : Y.calm = true) (hx : ∀ e u, ¬ Y.xe e u) (Tn : Turn Y.prog Y.w Y.K tg J fp it tn) (hg : PG Y tg g) (W : Nat → Nat → Hp → Prop)
    (hW : ∀ i m H, W i m H → (J.stop i H ∧ ∀ u, L2.Inv Y pl τ H u → R (.ok .next) u) ∨ (J.go i H ∧ ∀ x H', J.yld i H x H' → g x τ H' fun τ2 H2 => ∀ u pl', L2.Inv Y (pl ++ pl') τ2 H2 u →
      wpAny (model Y.prog Y.w) Y.A step (fun fin u3 => fin = .again (.compLoop E k (.ref it) acc Y.env) ∧ ∃ m' H3, m' < m ∧ L2.Inv Y (pl ++ pl') τ H3 u3 ∧ W (i + 1) m' H3) (fun _ _ => False) u))
    (m : Nat) (H : Hp) (u : Shared) (I : L2.Inv Y pl τ H u) (st : tn 0 u.heap) (hf : ∀ b ∈ fp, FpOk Y pl H b) (w : W 0 m H) : codeAny (model Y.prog Y.w) Y.A (.compLoop E k (.ref it) acc Y.env) R u := by
  refine codeAny_loop rfl (fun n v => ∃ i G, L2.Inv Y pl τ G v ∧ tn i v.heap ∧ (∀ b ∈ fp, G b = none) ∧ W i n G) (fun n v ⟨i, G, IG, sG, nG, wG⟩ => ?_) m ⟨0, H, I, st, fun b hb => (hf b hb).1, w⟩
  rw [hd, hu]
  refine wpAny_noted ?_
  rw [hE]
  have ff : ∀ b ∈ fp, FpOk Y pl G b := fun b hb => ⟨nG b hb, (hf b hb).2⟩
  refine wpAny_bind (wpAny_standAt (wpAny_bind ?_))
  rcases hW i n G wG with ⟨stop, q⟩ | ⟨go, q⟩
  · refine thnF (Tn.done Y rfl rfl rfl hc i pl v τ G _ IG ff sG stop) fun r v1 ⟨e, I1⟩ => ?_
    subst e
    exact wpAny_pure (q v1 I1)
  · refine thnF (Tn.item Y rfl rfl rfl hc i pl v τ G _ IG ff sG go) fun r v1 ⟨z, e, h1⟩ => ?_
    subst e
    refine wpAny_bind (thnF h1 fun _ v2 ⟨x, G2, I2, rx, y2, sG2, n2⟩ => ?_)
    have I2' := I2.pinned (fun b hb => ⟨n2 b hb, (hf b hb).2⟩) (Tn.obj _ _ sG2)
    refine wpAny_bind (wpAny_mono (hg.run _ v2 τ G2 x z _ I2' rx (q x G2 y2)) (fun _ v3 ⟨τ3, G3, I3, q3⟩ => ?_) fun e v3 y => (hx e v3 y).elim)
    refine thnF (q3 v3 _ I3) fun fin v4 ⟨ef, m', G4, lt, I4, w4⟩ => ?_
    subst ef
    have pins : ∀ b ∈ fp, ∀ o, v2.heap.get? b = some o → v4.heap.get? b = some o ∧ G4 b = none := fun b hb o e => by
      have y := I4.pin (b, o) (List.mem_append_right _ (List.mem_append_right _ (mem_pinsAt hb e)))
      exact ⟨y.1, y.2.1⟩
    refine ⟨rfl, m', lt, i + 1, G4, I4.unpinned, Tn.keep _ _ _ sG2 fun b hb o e => (pins b hb o e).1, fun b hb => ?_, w4⟩
    obtain ⟨o, e, _⟩ := Tn.obj _ _ sG2 b hb
    exact (pins b hb o e).2
/-- the dict aside, steps go on -/
theorem aside {H F H2 F2 : Hp} {α α2 : List Addr} {u : HO} (h1 : H D = some u) (h2 : F D = none) (h3 : D ∉ α) (st : Step H F α H2 F2 α2) : Step (upd H D (.dK [])) F α (upd H2 D (.dK [])) F2 α2 := by
  refine ⟨st.ext, st.pre, fun a o ha na fa => ?_⟩
  by_cases q : a = D
  · subst q
    rw [upd_same] at ha
    obtain ⟨_, f1, n1⟩ := st.keep a _ h1 h3 h2
    exact ⟨KpT.of (upd_same.trans ha), f1, n1⟩
  · rw [upd_ne q] at ha
    obtain ⟨k1, k2⟩ := st.keep a o ha na fa
    exact ⟨k1.up q, k2⟩
theorem loop_ok {vs : List Nat} {bd : PD → EV → Option EV} {ac : AcX} {σ : L2.St} {ρ : EV} {ds : List PD} {H F : Hp} {α : List Addr} {M : MH} {kvs : List (Key × V)} {zs : List PD} {ks' : List Key} {zs' : List PD} {M' : MH}
    (hE : compTurn E k (.ref it) acc Y.env = (standAt p >>= fun _ => pyNext (.ref it) >>= fun r => match r with
      | none => pure (.done .next)
      | some v => letOwnedTupleGo tg (.ref it) v >>= fun _ => assign tg Y.env v >>= fun _ => step))
    (hd : (model Y.prog Y.w).den (.compLoop E k (.ref it) acc Y.env) = (compTurn E k (.ref it) acc Y.env).onRaise (fun e => do noteFrame e Y.env; theTreesLotGoes e)) (hu : Y.A.under (.compLoop E k (.ref it) acc Y.env) = Y.A)
    (hc : Y.calm = true) (hx : ∀ e u, ¬ Y.xe e u) (Tn : Turn Y.prog Y.w Y.K tg J fp it tn) (hg : PG Y tg g) (hb : BdOk Y.K T g vs bd) (hst : StepOk Y T D vs step (.compLoop E k (.ref it) acc Y.env) ac) (j : Jok Y.K T J F ds)
    (L : LR Y.K T F α (L2.wipe σ vs) ρ) (Rh : HR Y.K T H M F α) (hD : H D = some (.dK kvs)) (hF : F D = none) (hA : D ∉ α) (rz : Reps Y.K T F (kvs.map (·.2)) zs) (run : dcW bd ac ds ρ (kvs.map (·.1)) zs M = some (ks', zs', M'))
    (u : Shared) (I : L2.Inv Y pl (L2.wipe σ vs) H u) (st : tn 0 u.heap) (hf : ∀ b ∈ fp, FpOk Y pl H b) :
    codeAny (model Y.prog Y.w) Y.A (.compLoop E k (.ref it) acc Y.env) (fun r u' => r = .ok .next ∧ ∃ H', AccP Y T D pl (L2.wipe σ vs) H F α ks' zs' M' u' H') u := by
  refine walk_loop hE hd hu hc hx Tn hg (fun i m G => m = ds.length - i ∧ i ≤ ds.length ∧ ∃ F1 α1 kvs1 zs1 M1, HR Y.K T G M1 F1 α1 ∧ Step (upd H D (.dK [])) F α (upd G D (.dK [])) F1 α1 ∧ G D = some (.dK kvs1) ∧ F1 D = none ∧ D ∉ α1 ∧
      Reps Y.K T F1 (kvs1.map (·.2)) zs1 ∧ dcW bd ac (ds.drop i) ρ (kvs1.map (·.1)) zs1 M1 = some (ks', zs', M')) ?_ ds.length H u I st hf ⟨rfl, Nat.zero_le _, F, α, kvs, zs, M, Rh, Step.refl, hD, hF, hA, rz, run⟩
  rintro i m G ⟨rfl, hi, F1, α1, kvs1, zs1, M1, R1, s1, d1, f1, a1, r1, run1⟩
  by_cases hlt : i < ds.length
  · obtain ⟨go, yl⟩ := (j G M1 F1 α1 s1.ext R1 i).1 hlt
    refine .inr ⟨go, fun x G2 y => ?_⟩
    obtain ⟨F2, R2, s2, d, hd, rd⟩ := yl x G2 y
    have ed : ds.drop i = d :: ds.drop (i + 1) := by
      rw [List.drop_eq_getElem_cons hlt]
      obtain ⟨_, q⟩ := List.getElem?_eq_some_iff.mp hd
      rw [q]
    rw [ed] at run1
    unfold dcW at run1
    obtain ⟨d2, f2, a2⟩ := s2.keep D _ d1 a1 f1
    cases hbd : bd d ρ with
    | none => rw [hbd] at run1; cases run1
    | some ρ1 =>
      rw [hbd] at run1
      dsimp only at run1
      have s12 : Step (upd H D (.dK [])) F α (upd G2 D (.dK [])) F2 α1 := s1.trans (aside d1 f1 a1 s2)
      refine hb x d σ ρ ρ1 G2 F2 α1 M1 _ R2 (L.mono s12) rd hbd fun τ2 L2' hw => ?_
      intro v pl' I2
      cases hac : ac ρ1 (kvs1.map (·.1)) zs1 M1 with
      | none => rw [hac] at run1; cases run1
      | some z =>
        obtain ⟨ks3, zs3, M3⟩ := z
        rw [hac] at run1
        dsimp only at run1
        refine thnF (hst (pl ++ pl') v τ2 ρ1 G2 F2 α1 M1 kvs1 zs1 ks3 zs3 M3 L2' R2 d2 f2 a2 (r1.mono s2.ext) hac I2) fun fin v3 ⟨ef, G3, F3, α3, kvs3, I3, R3, s3, d3, f3, a3, ek, r3⟩ => ?_
        rw [hw] at I3
        subst ek
        exact ⟨ef, ds.length - (i + 1), G3, by omega, I3, rfl, hlt, F3, α3, kvs3, zs3, M3, R3, s12.trans s3, d3, f3, a3, r3, run1⟩
  · have ei : i = ds.length := by omega
    subst ei
    have e0 : ds.drop ds.length = [] := by simp
    rw [e0] at run1
    cases run1
    exact .inl ⟨(j G _ F1 α1 s1.ext R1 _).2 (Nat.le_refl _), fun v I1 => ⟨rfl, G, F1, α1, kvs1, I1, R1, s1, d1, f1, a1, rfl, r1⟩⟩
/-- one entry is put in -/
theorem put_ok {c0 : Code} {kx vx : Expr} {ek ev : EX} {vs : List Nat} {q : Pos} (hx : ∀ e u, ¬ Y.xe e u) (hk : PE Y kx (tE Y.K T W0 ek)) (hv : PE Y vx (tE Y.K T W0 ev)) :
    StepOk Y T D vs ((eval kx Y.env >>= fun a => holding [a] (eval vx Y.env) >>= fun b => standAt q >>= fun _ => holding [a, b] (dictSet D a b)) >>= fun _ => again c0) c0 (ac1 ek ev) := by
  intro pl u τ ρ H F α M kvs zs ks' zs' M' L R hD hF hA rz run I
  unfold ac1 at run
  cases h1 : okOnly (ek ρ M) with
  | none => rw [h1] at run; cases run
  | some z1 =>
  obtain ⟨k1, M1⟩ := z1
  rw [h1] at run
  cases k1 with
  | r _ => cases run
  | d kd =>
  dsimp only at run
  cases h2 : okOnly (ev ρ M1) with
  | none => rw [h2] at run; cases run
  | some z2 =>
  obtain ⟨v1, M2⟩ := z2
  rw [h2] at run
  cases v1 with
  | r _ => cases run
  | d vd =>
  cases h3 : kOf kd with
  | none => rw [h3] at run; cases run
  | some kk =>
  rw [h3] at run
  dsimp only at run
  split at run
  · rename_i hz
    cases run
    refine wpAny_bind (wpAny_bind (wpAny_mono (hk.run pl u τ H (fun x H' => ∃ F' α', HR Y.K T H' M1 F' α' ∧ Step H F α H' F' α' ∧ Rep Y.K T F' x kd) I (rd_of L R ⟨_, okOnly_some h1, fun x H' F' α' R' s' r' => ⟨F', α', R', s', r'⟩⟩)) (fun a u1 ⟨x, H1, I1, rx, F1, α1, R1, s1, r1⟩ => ?_) fun e u1 y => (hx e u1 y).elim))
    refine wpAny_bind (wpAny_holding (wpAny_mono (hv.run pl u1 τ H1 (fun x H' => ∃ F' α', HR Y.K T H' M' F' α' ∧ Step H1 F1 α1 H' F' α' ∧ Rep Y.K T F' x vd) I1 (rd_of (L.mono s1) R1 ⟨_, okOnly_some h2, fun x H' F' α' R' s' r' => ⟨F', α', R', s', r'⟩⟩)) (fun b u2 ⟨y, H2, I2, ry, F2, α2, R2, s2, r2⟩ => ?_) fun e u2 y => (hx e u2 y).elim))
    refine wpAny_bind (wpAny_standAt (wpAny_holding ?_))
    have s12 := s1.trans s2
    obtain ⟨d2, f2, a2⟩ := s12.keep D _ hD hA hF
    have ekk : x = kV kk := top_key (X := Y) (T := T) (F := F1) (H := H1) (.inl r1) h3
    subst ekk
    refine d_dictSet I2 d2 (by simpa using hz) rx ry fun u3 I3 => wpAny_pure ⟨rfl, _, F2, α2, putK kvs kk y, I3.weak (wipe_length _ _) (fun i v e => (wipe_some e).1), ?_, ?_, upd_same, f2, a2, put_keys, put_vals ((rz.mono s1.ext).mono s2.ext) r2⟩
    · refine ⟨fun c o e => ?_, R2.len, R2.nd, fun c m => ?_, R2.sep, fun i mo c e1 e2 => ?_, R2.old, fun q hq => tab_up (show H2 D = some (.dK kvs) from d2) (fun ps z => by cases z) (R2.tab q hq)⟩
      · have qa : c ≠ D := fun z => by rw [z, f2] at e; cases e
        exact kept_upd (R2.fr c o e) qa
      · rw [upd_ne (fun z => a2 (by rw [← z]; exact m))]
        exact R2.al c m
      · have qa : c ≠ D := fun z => a2 (by rw [← z]; exact List.mem_of_getElem? e2)
        have h0 := R2.obj i mo c e1 e2
        cases mo with
        | lst ds => obtain ⟨xs, g1, g2⟩ := h0; exact ⟨xs, (upd_ne qa).trans g1, g2⟩
        | dct ks ds => obtain ⟨kvs, g1, g2, g3⟩ := h0; exact ⟨kvs, (upd_ne qa).trans g1, g2, g3⟩
        | ins c gs => obtain ⟨dx, fs, g1, g2⟩ := h0; exact ⟨dx, fs, (upd_ne qa).trans g1, g2⟩
        | dcr ks gs => obtain ⟨kvs, g1, g2, g3⟩ := h0; exact ⟨kvs, (upd_ne qa).trans g1, g2, g3⟩
        | dtp ks ds => obtain ⟨kvs, g1, g2, g3⟩ := h0; exact ⟨kvs, (upd_ne qa).trans g1, g2, g3⟩
        | tpm ks => exact (upd_ne qa).trans h0
        | gone => trivial
    · rw [upd_upd]
      exact aside hD hF hA s12
  · cases run
/-- the second clause, for one item of the first -/
theorem inner_ok {tg1 i1 : Expr} {E0 : Expr} {env : Env} {vs vs1 : List Nat} {g1 : TG} {bd1 : PD → EV → Option EV} {it1 : IX} {ac : AcX} {st1 : Addr → Sem Fin} {c0 : Code} {q q2 : Pos} (henv : env = Y.env) (hc : Y.calm = true) (hx : ∀ e u, ¬ Y.xe e u)
    (hE : ∀ j : Addr, compTurn E0 1 (.ref j) (.ref D) Y.env = (standAt q >>= fun _ => pyNext (.ref j) >>= fun r => match r with
      | none => pure (.done .next)
      | some v => letOwnedTupleGo tg1 (.ref j) v >>= fun _ => assign tg1 Y.env v >>= fun _ => st1 j))
    (hd : ∀ j : Addr, (model Y.prog Y.w).den (.compLoop E0 1 (.ref j) (.ref D) Y.env) = (compTurn E0 1 (.ref j) (.ref D) Y.env).onRaise (fun e => do noteFrame e Y.env; theTreesLotGoes e)) (hu : ∀ j : Addr, Y.A.under (.compLoop E0 1 (.ref j) (.ref D) Y.env) = Y.A)
    (hs0 : ∀ (j : Addr) (R : Result → Shared → Prop) (u : Shared), codeAny (model Y.prog Y.w) Y.A (.compLoop E0 1 (.ref j) (.ref D) Y.env) R u → wpAny (model Y.prog Y.w) Y.A (pyIter (.ref j)) (fun j' u' => codeAny (model Y.prog Y.w) Y.A (.compLoop E0 1 j' (.ref D) Y.env) R u') (notedBy (model Y.prog Y.w) Y.A Y.env fun x u' => R (.error x) u') u → codeAny (model Y.prog Y.w) Y.A (.compStart E0 1 (.ref j) (.ref D) Y.env) R u)
    (hi : PI Y tg1 i1 (iD Y.K T W0 it1)) (hg : PG Y tg1 g1) (hb : BdOk Y.K T g1 vs1 bd1) (hst : ∀ j : Addr, StepOk Y T D vs1 (st1 j) (.compLoop E0 1 (.ref j) (.ref D) Y.env) ac) (hsub : ∀ i ∈ vs1, i ∈ vs) (hf1 : ∀ env x, foldedSetIterable i1 env x = pure x) :
    StepOk Y T D vs (eval i1 Y.env >>= fun x => standAt q2 >>= fun _ => foldedSetIterable i1 Y.env x >>= fun x => holding [x] (pyIter x) >>= fun j => runOwn (.compStart E0 1 j (.ref D) Y.env) Y.env >>= fun _ => again c0) c0 (ac2 vs1 bd1 it1 ac) := by
  intro pl u τ ρ H F α M kvs zs ks' zs' M' L R hD hF hA rz run I
  unfold ac2 at run
  cases h1 : okOnly (it1 ρ M) with
  | none => rw [h1] at run; cases run
  | some z1 =>
  obtain ⟨ds, M1⟩ := z1
  rw [h1] at run
  dsimp only at run
  refine wpAny_bind (wpAny_mono (hi.run pl u τ H (fun J H' => ∃ F' α', HR Y.K T H' M1 F' α' ∧ Step H F α H' F' α' ∧ Jok Y.K T J F' ds) I (rd_of L R ⟨_, okOnly_some h1, fun x H' F' α' R' s' r' => ⟨F', α', R', s', r'⟩⟩)) (fun x u1 hx1 => ?_) fun e u1 y => (hx e u1 y).elim)
  refine wpAny_bind (wpAny_standAt (wpAny_bind (wpAny_of_eq (hf1 _ x) (wpAny_bind (wpAny_holding (wpAny_mono hx1 (fun itv u2 h2 => ?_) fun e u1 y => (hx e u1 y).elim))))))
  obtain ⟨it, fp, tn, J, H2, e, I2, Tn, st2, f2, F2, α2, R2, s2, jk⟩ := h2
  subst e
  obtain ⟨d2, fd2, a2⟩ := s2.keep D _ hD hA hF
  refine wpAny_bind (wpAny_runOwn ?_)
  rw [Around.mark_none]
  have L2' := (L.mono s2).wipe vs1
  have lp := loop_ok (pl := pl) (σ := τ) (hE it) (hd it) (hu it) hc hx Tn hg hb (hst it) jk L2' R2 d2 fd2 a2 (rz.mono s2.ext) run u2 (I2.weak (wipe_length _ _) (fun i v e => (wipe_some e).1)) st2 f2
  refine codeAny_mono (hs0 it _ u2 lp (Tn.self Y.A 0 _ _ _ st2 lp)) fun r u3 hr => ?_
  obtain ⟨e, H3, F3, α3, kvs3, I3, R3, s3, d3, fd3, a3, ek, r3⟩ := hr
  subst e
  refine wpAny_pure ⟨rfl, H3, F3, α3, kvs3, I3.weak ?_ (fun i v e => ?_), R3, (aside hD hF hA s2).trans s3, d3, fd3, a3, ek, r3⟩
  · rw [wipe_length, wipe_length]
  · obtain ⟨e1, e2⟩ := wipe_some e
    rw [wipe_out fun z => e2 (hsub i z)]
    exact e1
end
end Mi
namespace Mi
open PySem PySem.Spec PyProof.Rows L2
section
variable {X : Cx} {E tg iter : Expr} {gs : List Comprehension} {scope : Scope} {own : List (Str × Nat)} {pos pos' : Pos} {newAcc : Sem Value} {ob : Obj} {o0 : Addr → HO} {wi : TI}
/-- what the loop is to bring -/
def LoopW (X : Cx) (E tg : Expr) (scope : Scope) (vs : List Nat) (o0 : Addr → HO) (σ : L2.St) (Q : VK) (J : It) (G : Hp) : Prop :=
  ∀ D, G D = none → ∀ (t : Shared) (C : Addr) (cl : List (Str × Addr)) (fp : List Addr) (it : Addr) (tn : Nat → Heap → Prop) (u : Shared),
    Turn X.prog X.w X.K tg J fp it tn → tn 0 u.heap → (∀ b ∈ fp, FpOk (X.blk t (upd G D (o0 D)) scope (compEnvC scope cl C X.env) fp) [] (upd G D (o0 D)) b) →
    L2.Inv (X.blk t (upd G D (o0 D)) scope (compEnvC scope cl C X.env) fp) [] (L2.wipe σ vs) (upd G D (o0 D)) u →
    codeAny (model X.prog X.w) X.A (.compLoop E 0 (.ref it) (.ref D) (compEnvC scope cl C X.env))
      (fun r u' => r = .ok .next ∧ ∃ G', L2.Inv (X.blk t (upd G D (o0 D)) scope (compEnvC scope cl C X.env) fp) [] (L2.wipe σ vs) G' u' ∧ Q (.ref D) G') u
theorem comp_run (hcl : clausesOf E = ⟨tg, iter, [], 0⟩ :: gs) (hnew : ∀ (A : Around) (E' Q' : Value → Shared → Prop) (t : Shared), Q' (.ref t.heap.objs.size) { t with heap := t.heap.push ob } → wpAny (model X.prog X.w) A newAcc Q' E' t)
    (hob : ∀ (pl : List (Addr × Obj)) (τ : L2.St) (G : Hp) (t : Shared), L2.Inv X pl τ G t → ObjOk X.prog X.w (upd G t.heap.objs.size (o0 t.heap.objs.size)) (t.heap.push ob) t.heap.objs.size (o0 t.heap.objs.size))
    (hst : ∀ (it D : Addr) (env : Env) (R : Result → Shared → Prop) (t : Shared), codeAny (model X.prog X.w) X.A (.compLoop E 0 (.ref it) (.ref D) env) R t →
      wpAny (model X.prog X.w) X.A (pyIter (.ref it)) (fun j t' => codeAny (model X.prog X.w) X.A (.compLoop E 0 j (.ref D) env) R t') (notedBy (model X.prog X.w) X.A env fun x t' => R (.error x) t') t → codeAny (model X.prog X.w) X.A (.compStart E 0 (.ref it) (.ref D) env) R t)
    (hc : X.calm = true) (hN : X.N.Nodup) (hi : PI X tg iter wi) (ok : BlkOk X.N X.env.scope scope own) (hs : ∀ x, foldedSetIterable iter X.env x = pure x)
    {pl : List (Addr × Obj)} {t : Shared} {σ : L2.St} {G : Hp} {Q : VK} (I : L2.Inv X pl σ G t) (h : wi σ G fun J G1 => LoopW X E tg scope (own.map (·.2)) o0 σ Q J G1) :
    wpAny (model X.prog X.w) X.A (comprehension E scope X.env pos' newAcc false (eval iter X.env) none) (EP X pl σ Q) X.xe t := by
  have free : ∀ y ∈ scope.names, y.2 = .free → ∃ c, X.env.cells.lookup y.1 = some c := fun y hy e => by
    rcases ok.free y hy e with z | z
    · exact I.ok.has _ (.inl z)
    · exact I.ok.has _ (.inr z)
  refine wpAny_comprehension_free (use := none) hcl hs (closure_ok free) ok.kind (fun y hy e => by rw [ok.uniq y hy, e]) (thn (hi.run pl t σ G _ I h) fun _ t1 h1 => thn h1 fun _ t2 h2 => ?_)
  obtain ⟨it, fp, tn, J, G2, e, I2, Tn, st2, f2, loop⟩ := h2
  subst e
  refine hnew _ _ _ _ (newEnv_comp ?_)
  generalize hD : t2.heap.objs.size = D
  have newD : G2 D = none := I2.hok.fresh (Nat.le_of_eq hD)
  generalize ht3 : ({ t2 with heap := t2.heap.push ob } : Shared) = t3
  have p3 : t3.heap = t2.heap.push ob := by rw [← ht3]
  have I3 : L2.Inv X pl σ (upd G2 D (o0 D)) t3 := by
    rw [← ht3]
    refine I2.laid (t' := t2.toks) (fun b o e => Heap.get?_push_of_some _ e) (Nat.le_of_eq hD) ?_
    rw [← hD]
    exact hob pl σ G2 t2 I2
  have small : ∀ b ∈ fp, b < D := fun b hb => by
    obtain ⟨o, e, _⟩ := Tn.obj _ _ st2 b hb
    rw [← hD]
    exact Heap.lt_size e
  have f3 : ∀ b ∈ fp, FpOk X pl (upd G2 D (o0 D)) b ∧ b < t3.heap.objs.size := fun b hb => by
    have lt := small b hb
    refine ⟨⟨?_, (f2 b hb).2⟩, ?_⟩
    · rw [upd_ne (Nat.ne_of_lt lt)]
      exact (f2 b hb).1
    · rw [p3, Heap.size_push, hD]
      exact Nat.lt_succ_of_lt lt
  have st3 : tn 0 t3.heap := Tn.keep _ _ _ st2 fun b _ o e => by
    rw [p3]
    exact Heap.get?_push_of_some _ e
  have I4 := block_start I3 ok hN f3
  have lp := loop D newD t3 t3.heap.objs.size (cellsFrom (t3.heap.objs.size + 1) scope.names (cloFrom X.env.cells scope.names [])) fp it tn _ Tn
    (Tn.keep _ _ _ st3 fun b _ o e => pushCells_keeps _ _ _ _ (Heap.get?_push_of_some _ e))
    (fun b hb => ⟨(f3 b hb).1.1, (I4.ok.exf b hb).1, I4.ok.exfs b hb, .inl hb, fun x c e => (I4.ok.exf b hb).2 x c e, fun p hp => by
      have hp : p ∈ ([] : List (Addr × Obj)) ++ [] := hp
      simp at hp⟩) I4
  refine codeAny_mono (hst it D _ _ _ lp (Tn.self X.A 0 _ _ _ (Tn.keep _ _ _ st3 fun b _ o e => pushCells_keeps _ _ _ _ (Heap.get?_push_of_some _ e)) lp)) fun r u hr => ?_
  obtain ⟨e, G6, I6, q⟩ := hr
  subst e
  have I7 : L2.Inv X pl σ G6 u := I3.call' (ch := fp) I6.os I6.base I6.hok I6.bare fun b hb => ⟨(f3 b hb).1.2.2.2.1, (f3 b hb).1.2.1, (f3 b hb).1.2.2.2.2.1, (f3 b hb).1.2.2.2.2.2⟩
  have nC : G6 t3.heap.objs.size = none := I6.free
  obtain ⟨m, hn, _⟩ := I6.loc
  obtain ⟨k0, k1, k2, k3, k4, k5⟩ := I3.fpOk (Nat.le_refl _) nC
  exact ⟨m, hn, fun h' sb => ⟨.ref D, G6, I7.turned (t' := u.toks) (fun b o hb e => (sb.2 b hb).trans e) k0 k1 k3 k4 k5, rfl, q⟩⟩
end
section
variable {X : Cx} {T : Tb} {W : WX} {kx vx tg iter tg1 iter1 : Expr} {scope : Scope} {own : List (Str × Nat)} {pos : Pos} {g g1 : TG} {it it1 : IX} {bd bd1 : PD → EV → Option EV} {ek ev : EX} {vs1 : List Nat}
/-- the reading around the loop -/
theorem dc_read {E : Expr} {ac : AcX} {σ : L2.St} {G : Hp} {Q : VK} (hh : tE X.K T W (eDc (own.map (·.2)) bd it ac) σ G Q)
    (hloop : ∀ (D : Addr) (t : Shared) (C : Addr) (cl : List (Str × Addr)) (fp : List Addr) (j : Addr) (tn : Nat → Heap → Prop) (u : Shared) (J : It) (G1 : Hp) (F : Hp) (α : List Addr) (M M' : MH) (ρ : EV) (ds : List PD) (ks : List Key) (zs : List PD),
      Turn X.prog X.w X.K tg J fp j tn → tn 0 u.heap → (∀ b ∈ fp, FpOk (X.blk t (upd G1 D (.dK [])) scope (compEnvC scope cl C X.env) fp) [] (upd G1 D (.dK [])) b) →
      L2.Inv (X.blk t (upd G1 D (.dK [])) scope (compEnvC scope cl C X.env) fp) [] (L2.wipe σ (own.map (·.2))) (upd G1 D (.dK [])) u →
      LR X.K T F α (L2.wipe σ (own.map (·.2))) ρ → HR X.K T (upd G1 D (.dK [])) M F α → F D = none → D ∉ α → Jok X.K T J F ds → dcW bd ac ds ρ [] [] M = some (ks, zs, M') →
      codeAny (model X.prog X.w) X.A (.compLoop E 0 (.ref j) (.ref D) (compEnvC scope cl C X.env)) (fun r u' => r = .ok .next ∧ ∃ H', AccP (X.blk t (upd G1 D (.dK [])) scope (compEnvC scope cl C X.env) fp) T D [] (L2.wipe σ (own.map (·.2))) (upd G1 D (.dK [])) F α ks zs M' u' H') u) :
    iD X.K T W it σ G fun J G1 => LoopW X E tg scope (own.map (·.2)) (fun _ => .dK []) σ Q J G1 := by
  obtain ⟨ρ, M, F, α, L, R, hh⟩ := rd_to hh
  refine rd_of L R (at_bind hh fun ds M1 J G1 F1 α1 s1 R1 j h1 => ?_)
  intro D hD t C cl fp jt tn u Tn st ff I
  obtain ⟨q, e, po⟩ := h1
  cases hw : dcW bd ac ds (wipeE ρ (own.map (·.2))) [] [] M1 with
  | none => rw [hw] at e; cases e
  | some z =>
    obtain ⟨ks, zs, M2⟩ := z
    rw [hw] at e
    cases e
    have L1 : LR X.K T F1 α1 (L2.wipe σ (own.map (·.2))) (wipeE ρ (own.map (·.2))) := (L.mono s1).wipe _
    refine codeAny_mono (hloop D t C cl fp jt tn u J G1 F1 α1 M1 M2 _ ds ks zs Tn st ff I L1 (R1.side hD) (R1.freeF hD) (R1.freeA hD) j hw) fun r u' hr => ?_
    obtain ⟨er, H', F3, α3, kvs, I3, R3, s3, d3, f3, a3, ek, r3⟩ := hr
    refine ⟨er, H', I3, ?_⟩
    subst ek
    have sd : Step G1 F1 α1 (upd G1 D (.dK [])) F1 α1 := step_side hD
    rw [upd_upd] at s3
    have s4 := sd.trans s3
    have s5 : Step G1 F1 α1 H' F3 (α3 ++ [D]) := ⟨s4.ext, by
      obtain ⟨β, e⟩ := s4.pre
      exact ⟨β ++ [D], by rw [e, List.append_assoc]⟩, fun a o ha na fa => by
      have qa : a ≠ D := fun z => by rw [z, hD] at ha; cases ha
      obtain ⟨h1, h2, h3⟩ := s4.keep a o ha na fa
      have h1 := h1.un qa
      exact ⟨h1, h2, by simp [h3, qa]⟩⟩
    have R5 := R3.adopt (p := D) (mo := .dct (kvs.map (·.1)) zs) (by rw [d3]; simp) a3 f3 ⟨kvs, d3, rfl, r3⟩ trivial (fun ps z => by rw [d3] at z; cases z)
    refine at_okS (W := W) (σ := σ) (v := V.ref D) s5 R5 ⟨_, rfl, po⟩ ⟨D, ?_, rfl⟩
    rw [List.getElem?_append_right (by rw [R3.len]; exact Nat.le_refl _), R3.len]
    simp
abbrev two4 (kx vx tg iter tg1 iter1 : Expr) (scope : Scope) (pos : Pos) : Expr := .DictComp kx vx [⟨tg, iter, [], 0⟩, ⟨tg1, iter1, [], 0⟩] scope pos
theorem start_in {P : Program} {w : World} {A : Around} {R : Result → Shared → Prop} {env : Env} {j acc : Value} {u : Shared} (h0 : codeAny (model P w) A (.compLoop (two4 kx vx tg iter tg1 iter1 scope pos) 1 j acc env) R u)
    (h : wpAny (model P w) A (pyIter j) (fun j' u' => codeAny (model P w) A (.compLoop (two4 kx vx tg iter tg1 iter1 scope pos) 1 j' acc env) R u') (notedBy (model P w) A env fun e u' => R (.error e) u') u) :
    codeAny (model P w) A (.compStart (two4 kx vx tg iter tg1 iter1 scope pos) 1 j acc env) R u := by
  refine codeAny_of_tree ?_
  refine wpAny_notedAt (m := compStart (two4 kx vx tg iter tg1 iter1 scope pos) 1 j acc env) (env := env) (pos := theWindowsPlace) ?_
  unfold compStart
  refine wpAny_bind (m := ask) (wpAny_askSetting (wpAny_ite ?_))
  split
  · exact wpAny_pure ⟨rfl, h0⟩
  · refine wpAny_bind (wpAny_rule ?_)
    refine wpAny_bind (m := standAt iter1.pos) (wpAny_standAt (wpAny_bind (wpAny_mono h (fun j' u' h' => ?_) fun _ _ z => z)))
    exact wpAny_pure ⟨rfl, h'⟩
theorem de_dc2 (hc : X.calm = true) (hN : X.N.Nodup) (hi : PI X tg iter (iD X.K T W it)) (ok : BlkOk X.N X.env.scope scope own) (hsub : ∀ i ∈ vs1, i ∈ own.map (·.2))
    (hg : ∀ (s : Shared) (H : Hp) (C : Addr) (cl : List (Str × Addr)) (fp : List Addr), PG (X.blk s H scope (compEnvC scope cl C X.env) fp) tg g)
    (hi1 : ∀ (s : Shared) (H : Hp) (C : Addr) (cl : List (Str × Addr)) (fp : List Addr), PI (X.blk s H scope (compEnvC scope cl C X.env) fp) tg1 iter1 (iD X.K T W0 it1))
    (hg1 : ∀ (s : Shared) (H : Hp) (C : Addr) (cl : List (Str × Addr)) (fp : List Addr), PG (X.blk s H scope (compEnvC scope cl C X.env) fp) tg1 g1)
    (hk : ∀ (s : Shared) (H : Hp) (C : Addr) (cl : List (Str × Addr)) (fp : List Addr), PE (X.blk s H scope (compEnvC scope cl C X.env) fp) kx (tE X.K T W0 ek))
    (hv : ∀ (s : Shared) (H : Hp) (C : Addr) (cl : List (Str × Addr)) (fp : List Addr), PE (X.blk s H scope (compEnvC scope cl C X.env) fp) vx (tE X.K T W0 ev))
    (hb : BdOk X.K T g (own.map (·.2)) bd) (hb1 : BdOk X.K T g1 vs1 bd1) (hs : ∀ x, foldedSetIterable iter X.env x = pure x := by intro _; rfl) (hs1 : ∀ env x, foldedSetIterable iter1 env x = pure x := by intro _ _; rfl) :
    PE X (.DictComp kx vx [⟨tg, iter, [], 0⟩, ⟨tg1, iter1, [], 0⟩] scope pos) (tE X.K T W (eDc (own.map (·.2)) bd it (ac2 vs1 bd1 it1 (ac1 ek ev)))) := by
  refine ⟨fun pl t σ G Q I hh => ?_⟩
  rw [arm_eval_DictComp]
  refine comp_run (o0 := fun _ => .dK []) (ob := { cls := .type "dict", data := .dict #[] }) rfl (fun A E' Q' t h => wpAny_newObj_type h) (fun pl τ G t I => dk_empty t.heap I.big) (fun it D env R t h1 h2 => codeAny_compStart_dict h1 h2) hc hN hi ok hs I (dc_read hh ?_)
  intro D t C cl fp j tn u J G1 F α M M' ρ ds ks zs Tn st ff I L R hF hA jk run
  exact loop_ok (Y := X.blk t (upd G1 D (.dK [])) scope (compEnvC scope cl C X.env) fp) (kvs := []) (by rfl) (by rfl) (by rfl) hc (fun _ _ z => z) Tn (hg _ _ _ _ _) hb
    (inner_ok (E0 := two4 kx vx tg iter tg1 iter1 scope pos) rfl hc (fun _ _ z => z) (fun _ => by rfl) (fun _ => by rfl) (fun _ => by rfl) (fun j R u h1 h2 => start_in h1 h2) (hi1 _ _ _ _ _) (hg1 _ _ _ _ _) hb1
      (fun _ => put_ok (fun _ _ z => z) (hk _ _ _ _ _) (hv _ _ _ _ _)) hsub hs1) jk L R upd_same hF hA .nil run u I st ff
end
end Mi
namespace Mi
open PySem PySem.Spec PyProof.Rows L2
def cntU : List Int → List Int → Nat → Nat
  | _, [], n => n
  | seen, x :: r, n => cntU (x :: seen) r (if x ∈ seen then n else n + 1)
def eLenSc (vs : List Nat) (bd : PD → EV → Option EV) (it : IX) (e : EX) : EX := fun ρ M => bnd (it ρ M) fun ds M1 => match lcL bd tYs e ds (wipeE ρ vs) M1 with
  | some (ys, M2) => (match intsOf ys with
    | some ns => if ns.length + 1 < scanBound then some (.ok (.d (.int (cntU [] ns 0))) M2) else none
    | none => none)
  | none => none
section
variable {X : Cx} {T : Tb} {W : WX} {elt tg iter : Expr} {scope : Scope} {own : List (Str × Nat)} {pos : Pos} {g : TG} {it : IX} {bd : PD → EV → Option EV} {e : EX}
def rLenSet (w : World) : List V → Hp → VK → Prop := fun vs H Q => ∃ (a : Addr) (S : Int → Bool) (n : Nat), vs = [V.ref a] ∧ H a = some (SetO w a S n) ∧ Q (.int n) H
theorem cr_lenSet : CallR X (.builtin "len") (rLenSet X.w) := by
  intro pins s σ H vs us Q I r h
  obtain ⟨a, S, n, rfl, ha, q⟩ := h
  obtain ⟨o, es, ep, t, ho, hex, hd, g, nd, hm, hb, hf, hn, hr, hl⟩ := setO_get I ha
  rw [Vals.ref1 r]
  refine call_len_set ho hex hd hf (by unfold scanBound at hb; omega) ⟨.int n, H, I.tok _, ⟨_, by rw [hn]⟩, q⟩
def tSi (X : Cx) (T : Tb) (W : WX) (elt tg iter : Expr) (scope : Scope) (pos : Pos) (vs : List Nat) (it : IX) : TE := fun σ G Q => iD X.K T W it σ G fun J G1 => LoopW X (.SetComp elt [⟨tg, iter, [], 0⟩] scope pos) tg scope vs (fun D => SetO X.w D (fun _ => false) 0) σ Q J G1
theorem pe_si (hc : X.calm = true) (hN : X.N.Nodup) (hi : PI X tg iter (iD X.K T W it)) (ok : BlkOk X.N X.env.scope scope own) (hs : ∀ x, foldedSetIterable iter X.env x = pure x := by intro _; rfl) :
    PE X (.SetComp elt [⟨tg, iter, [], 0⟩] scope pos) (tSi X T W elt tg iter scope pos (own.map (·.2)) it) := by
  refine ⟨fun pl t σ G Q I hh => ?_⟩
  rw [PpSet.eval_SetComp]
  exact comp_run (o0 := fun D => SetO X.w D (fun _ => false) 0) (ob := { cls := .type "set", dict := none, data := .set #[] 0 (.fresh 0 0 (!X.w.params.followText "set-order")) }) rfl (fun A E' Q' t h => PpSet.newSet_ok h) (fun pl τ G t I => setO_new (setR_fresh X.w))
    (fun it D env R t h1 h2 => PpSet.codeAny_compStart_set h1 h2) hc hN hi ok hs I hh
theorem intsOf_cons {y : PD} {ys : List PD} {ns : List Int} (h : intsOf (y :: ys) = some ns) : ∃ k r, y = .int k ∧ intsOf ys = some r ∧ ns = k :: r := by
  cases y with
  | int k =>
    unfold intsOf at h
    cases h2 : intsOf ys with
    | none => rw [h2] at h; cases h
    | some r =>
      rw [h2] at h
      cases h
      exact ⟨k, r, rfl, rfl, rfl⟩
  | _ => cases h
theorem de_lensc {p : Pos} {pos1 : Pos} (hc : X.calm = true) (hN : X.N.Nodup) (hm : X.mg "len" = none) (hi : PI X tg iter (iD X.K T W it)) (ok : BlkOk X.N X.env.scope scope own)
    (hg : ∀ (s : Shared) (H : Hp) (C : Addr) (cl : List (Str × Addr)) (fp : List Addr), PG (X.blk s H scope (compEnvC scope cl C X.env) fp) tg g)
    (he : ∀ (s : Shared) (H : Hp) (C : Addr) (cl : List (Str × Addr)) (fp : List Addr), PE (X.blk s H scope (compEnvC scope cl C X.env) fp) elt (tE X.K T W0 e))
    (hb : BdOk X.K T g (own.map (·.2)) bd) (hg0 : Gl X "len" := by rfl) (hs : ∀ x, foldedSetIterable iter X.env x = pure x := by intro _; rfl)
    (ns : starEach [Expr.SetComp elt [⟨tg, iter, [], 0⟩] scope pos1] X.env = (false, eval (Expr.SetComp elt [⟨tg, iter, [], 0⟩] scope pos1) X.env) :: starEach [] X.env := by rfl) :
    PE X (.Call (.Name "len" p) [.SetComp elt [⟨tg, iter, [], 0⟩] scope pos1] [] pos) (tE X.K T W (eLenSc (own.map (·.2)) bd it e)) := by
  refine peImp (pe_callB cr_lenSet hg0 hm PySem.boot_len (pa_cons (pe_si (T := T) (W := W) (own := own) hc hN hi ok hs) pa_nil ns) (he := ns)) fun σ G Q hh => ?_
  obtain ⟨ρ, M, F, α, L, R, hh⟩ := rd_to hh
  refine rd_of L R (at_bind hh fun ds M1 J G1 F1 α1 s1 R1 jk h1 => ?_)
  intro D hD t C cl fp jt tn u Tn st ff I
  obtain ⟨q, eq, po⟩ := h1
  cases hl : lcL bd tYs e ds (wipeE ρ (own.map (·.2))) M1 with
  | none => rw [hl] at eq; cases eq
  | some z =>
  obtain ⟨ys, M2⟩ := z
  rw [hl] at eq
  dsimp only at eq
  cases hn : intsOf ys with
  | none => rw [hn] at eq; cases eq
  | some ms =>
  rw [hn] at eq
  dsimp only at eq
  split at eq
  · rename_i hbd
    cases eq
    have L1 : LR X.K T F1 α1 (L2.wipe σ (own.map (·.2))) (wipeE ρ (own.map (·.2))) := (L.mono s1).wipe _
    have nF : F1 D = none := R1.freeF hD
    have nA : D ∉ α1 := R1.freeA hD
    refine walk_loop (Y := X.blk t (upd G1 D (SetO X.w D (fun _ => false) 0)) scope (compEnvC scope cl C X.env) fp) (step := (eval elt (compEnvC scope cl C X.env) >>= fun v => standAt elt.pos >>= fun _ => call (.builtin "set.add") [.ref D, v] >>= fun _ => pure ()) >>= fun _ => again (.compLoop (.SetComp elt [⟨tg, iter, [], 0⟩] scope pos1) 0 (.ref jt) (.ref D) (compEnvC scope cl C X.env))) (by rfl) (by rfl) (by rfl) hc (fun _ _ z => z) Tn (hg _ _ _ _ _)
      (fun i m G => m = ds.length - i ∧ i ≤ ds.length ∧ ∃ F' α' M' seen n ys' rest, HR X.K T G M' F' α' ∧ Step (upd (upd G1 D (SetO X.w D (fun _ => false) 0)) D (.dK [])) F1 α1 (upd G D (.dK [])) F' α' ∧ G D = some (SetO X.w D (fun j => decide (j ∈ seen)) n) ∧ F' D = none ∧ D ∉ α' ∧
        lcL bd tYs e (ds.drop i) (wipeE ρ (own.map (·.2))) M' = some (ys', M2) ∧ intsOf ys' = some rest ∧ cntU seen rest n = cntU [] ms 0 ∧ n + rest.length ≤ ms.length) ?_ ds.length _ u I st ff
      ⟨rfl, Nat.zero_le _, F1, α1, M1, [], 0, ys, ms, R1.side hD, Step.refl, by rw [upd_same]; simp, nF, nA, hl, hn, rfl, by omega⟩
    rintro i m G ⟨rfl, hi', F', α', M', seen, n, ys', rest, R', s', d', f', a', run, hr, hcn, hle⟩
    by_cases hlt : i < ds.length
    · obtain ⟨go, yl⟩ := (jk G M' F' α' s'.ext R' i).1 hlt
      refine .inr ⟨go, fun x G2 y => ?_⟩
      obtain ⟨F2, R2, s2, d, hd, rd⟩ := yl x G2 y
      have ed : ds.drop i = d :: ds.drop (i + 1) := by
        rw [List.drop_eq_getElem_cons hlt]
        obtain ⟨_, q⟩ := List.getElem?_eq_some_iff.mp hd
        rw [q]
      rw [ed] at run
      unfold lcL at run
      obtain ⟨d2, f2, a2⟩ := s2.keep D _ d' a' f'
      cases hbd : bd d (wipeE ρ (own.map (·.2))) with
      | none => rw [hbd] at run; cases run
      | some ρ1 =>
      rw [hbd] at run
      have run : (match okOnly (e ρ1 M') with
        | some (.d y, M3) => (match lcL bd tYs e (ds.drop (i + 1)) (wipeE ρ (own.map (·.2))) M3 with
          | some (ys, M4) => some (y :: ys, M4)
          | none => none)
        | _ => none) = some (ys', M2) := run
      have s12 := s'.trans (aside d' f' a' s2)
      refine hb x d σ _ ρ1 G2 F2 α' M' _ R2 (L1.mono s12) rd hbd fun τ2 L2' hw => ?_
      intro v pl' I2
      cases hev : okOnly (e ρ1 M') with
      | none => rw [hev] at run; cases run
      | some z =>
      obtain ⟨vy, M3⟩ := z
      rw [hev] at run
      cases vy with
      | r _ => cases run
      | d yd =>
      dsimp only at run
      cases hq : lcL bd tYs e (ds.drop (i + 1)) (wipeE ρ (own.map (·.2))) M3 with
      | none => rw [hq] at run; cases run
      | some z2 =>
      obtain ⟨ys2, M4⟩ := z2
      rw [hq] at run
      cases run
      obtain ⟨k, r2, rfl, hr2, rfl⟩ := intsOf_cons hr
      refine wpAny_bind (wpAny_bind (thnF ((he _ _ _ _ _).run _ v τ2 G2 (fun x H' => ∃ F' α', HR X.K T H' M3 F' α' ∧ Step G2 F2 _ H' F' α' ∧ Rep X.K T F' x (.int k)) I2 (rd_of L2' R2 ⟨_, okOnly_some hev, fun x H' F' α' R' s' r' => ⟨F', α', R', s', r'⟩⟩)) fun a u1 ⟨x1, G3, I3, rx, F3, α3, R3, s3, r3⟩ => ?_))
      cases r3
      obtain ⟨d3, f3, a3⟩ := s3.keep D _ d2 a2 f2
      simp only [List.length_cons] at hle
      refine wpAny_bind (wpAny_standAt (wpAny_bind (thnF (mt_sadd (X := X.blk t (upd G1 D (SetO X.w D (fun _ => false) 0)) scope (compEnvC scope cl C X.env) fp) _ u1 τ2 G3 (.ref D) [.int k] (.ref D) [a] (fun _ H' => H' = upd G3 D (SetO X.w D (fun j => decide (j ∈ seen) || decide (j = k)) (if decide (k ∈ seen) = true then n else n + 1))) I3 rfl (.cons rx .nil) ⟨D, k, _, n, rfl, rfl, d3, by omega, rfl⟩) fun _ u2 ⟨_, G4, I4, _, eG⟩ => ?_)))
      subst eG
      have eS : (fun j => decide (j ∈ seen) || decide (j = k)) = fun j => decide (j ∈ k :: seen) := by
        funext j
        simp [Bool.or_comm]
      rw [eS] at I4
      refine wpAny_pure (wpAny_pure ⟨rfl, ds.length - (i + 1), upd G3 D (SetO X.w D (fun j => decide (j ∈ k :: seen)) (if decide (k ∈ seen) = true then n else n + 1)), by omega, ?_, rfl, hlt, F3, α3, M3, k :: seen, _, ys2, r2, ?_, ?_, upd_same, f3, a3, hq, hr2, ?_, ?_⟩)
      · rw [← hw]
        exact I4.weak (wipe_length _ _) (fun i v e => (wipe_some e).1)
      · refine ⟨fun c o e => ?_, R3.len, R3.nd, fun c m => ?_, R3.sep, fun i mo c e1 e2 => ?_, R3.old, fun q hq => tab_up d3 (fun ps z => by unfold SetO at z; cases z) (R3.tab q hq)⟩
        · have qa : c ≠ D := fun z => by rw [z, f3] at e; cases e
          exact kept_upd (R3.fr c o e) qa
        · rw [upd_ne (fun z => a3 (by rw [← z]; exact m))]
          exact R3.al c m
        · have qa : c ≠ D := fun z => a3 (by rw [← z]; exact List.mem_of_getElem? e2)
          have h0 := R3.obj i mo c e1 e2
          cases mo with
          | lst ds => obtain ⟨xs, g1, g2⟩ := h0; exact ⟨xs, (upd_ne qa).trans g1, g2⟩
          | dct ks ds => obtain ⟨kvs, g1, g2, g3⟩ := h0; exact ⟨kvs, (upd_ne qa).trans g1, g2, g3⟩
          | ins c gs => obtain ⟨dx, fs, g1, g2⟩ := h0; exact ⟨dx, fs, (upd_ne qa).trans g1, g2⟩
          | dcr ks gs => obtain ⟨kvs, g1, g2, g3⟩ := h0; exact ⟨kvs, (upd_ne qa).trans g1, g2, g3⟩
          | dtp ks ds => obtain ⟨kvs, g1, g2, g3⟩ := h0; exact ⟨kvs, (upd_ne qa).trans g1, g2, g3⟩
          | tpm ks => exact (upd_ne qa).trans h0
          | gone => trivial
      · have e9 := s12.trans (aside d2 f2 a2 s3)
        rw [upd_upd] at e9 ⊢
        first | exact e9 | (rw [upd_upd]; exact e9)
      · rw [← hcn]
        show cntU (k :: seen) r2 _ = cntU seen (k :: r2) n
        rw [cntU]
        simp
      · split <;> omega
    · have ei : i = ds.length := by omega
      subst ei
      have e0 : ds.drop ds.length = [] := by simp
      rw [e0] at run
      cases run
      cases hr
      refine .inl ⟨(jk G _ F' α' s'.ext R' _).2 (Nat.le_refl _), fun v I1 => ⟨rfl, G, I1, D, _, n, rfl, d', ?_⟩⟩
      have hcn : n = cntU [] ms 0 := hcn
      rw [upd_upd] at s'
      have s9 : Step G1 F1 α1 G F' α' := by
        have sd : Step G1 F1 α1 (upd G1 D (.dK [])) F1 α1 := step_side hD
        have s8 := sd.trans s'
        refine ⟨s8.ext, s8.pre, fun a o ha na fa => ?_⟩
        have qa : a ≠ D := fun z => by rw [z, hD] at ha; cases ha
        obtain ⟨h1, h2, h3⟩ := s8.keep a o ha na fa
        exact ⟨h1.un qa, h2, h3⟩
      rw [hcn]
      exact at_okS (W := W) (σ := σ) (v := V.int (cntU [] ms 0)) s9 R' ⟨_, rfl, po⟩ (.int _)
  · cases eq
end
end Mi
namespace Mi
open PySem PySem.Spec PyProof.Rows L2
section
variable {X : Cx} {T : Tb} {W : WX} {gs : AX} {a b : Expr} {pos : Pos}
theorem ds_parC2 {i j : Nat} {x y : Str} {px py pt : Pos} {kt k2 pt2} (ha : PA X [a, b] (tA X.K T W gs)) (hc : X.calm = true) (hi : PG X (.Name x px) (gName i)) (hj : PG X (.Name y py) (gName j))
    (hs : swapsWithSole [.Tuple [.Name x px, .Name y py] kt pt] (.Tuple [a, b] k2 pt2) pos.line X.env = pure false := by rfl) (hw : swappedStores [.Tuple [.Name x px, .Name y py] kt pt] (.Tuple [a, b] k2 pt2) X.env = pure none := by rfl) :
    PS X (.Assign [.Tuple [.Name x px, .Name y py] kt pt] (.Tuple [a, b] k2 pt2) pos) (tS X.K T W (sPar2 i j gs)) := by
  refine psImp (ps_asg (pe_tup ha) (pg_tup hc (pgs_cons hi (pgs_cons hj pgs_nil))) hs hw rfl) fun D σ H hh => ?_
  obtain ⟨ρ, M, F, α, L, R, hh⟩ := tS_to hh
  refine rd_of L R (atS_bind L hh fun vs M1 us H1 F1 α1 s1 R1 r1 h1 => ?_)
  cases r1 with
  | nil =>
    obtain ⟨z, e, _⟩ := h1
    cases e
  | cons ra rr =>
    cases rr with
    | nil =>
      obtain ⟨z, e, _⟩ := h1
      cases e
    | cons rb rr =>
      cases rr with
      | cons rc rr =>
        obtain ⟨z, e, _⟩ := h1
        cases e
      | nil =>
        rename_i v1 d1 v2 d2
        refine ⟨by show 2 ≤ sizeLine; rw [sizeLine_eq]; omega, fun p hp => ⟨p, _, rfl, .inl (.inl upd_same), rfl, ?_⟩⟩
        have s2 : Step H1 F1 α1 (upd H1 p (.tup [v1, v2])) F1 α1 := step_side hp
        exact ⟨_, _, rfl, _, _, rfl, rfl, atS_nx ((((L.mono s1).mono s2).set (ra.mono s2)).set (rb.mono s2)) (R1.side hp) (atS_step (W := W) s2 h1)⟩
end
section
variable {K : PySem.W.Frag} {T : Tb}
theorem wipe_get {σ : L2.St} {k : Nat} : ∀ {vs : List Nat}, k ∈ vs → k < σ.length → (L2.wipe σ vs)[k]? = some none
  | v :: vs, h, hl => by
    show ((L2.wipe σ vs).set v none)[k]? = some none
    by_cases e : v = k
    · subst e
      rw [List.getElem?_set_self (by rw [wipe_length]; exact hl)]
    · rw [List.getElem?_set_ne e]
      rcases List.mem_cons.mp h with h | h
      · exact (e h.symm).elim
      · exact wipe_get h hl
theorem wipe_setM {σ : L2.St} {i : Nat} {vs : List Nat} (o : Option V) (h : i ∈ vs) : L2.wipe ((L2.wipe σ vs).set i o) vs = L2.wipe σ vs := by
  refine List.ext_getElem? fun k => ?_
  by_cases hk : k ∈ vs
  · by_cases hl : k < σ.length
    · rw [wipe_get hk (by rw [List.length_set, wipe_length]; exact hl), wipe_get hk hl]
    · rw [List.getElem?_eq_none (by rw [wipe_length, List.length_set, wipe_length]; omega), List.getElem?_eq_none (by rw [wipe_length]; omega)]
  · rw [wipe_out hk, List.getElem?_set_ne (fun e => hk (by rw [← e]; exact h))]
theorem bdOkM {i : Nat} {vs : List Nat} (h : i ∈ vs) : BdOk K T (gName i) vs (bd1 i) := fun x d σ ρ ρ1 H F α M Q R L r e k => by
  cases e
  exact k _ (L.set (vl := .d d) r) (wipe_setM _ h)
end
def iSeqM (g : EX) : IX := fun ρ M => bnd (g ρ M) fun v M1 => match v with
  | .r k => (match M1[k]? with
    | some (.lst ds) => some (.ok ds (M1.set k .gone))
    | _ => none)
  | .d _ => none
def mkCat (xs : List VL) (M : MH) : Option (Rs VL) := match xs with
  | [x, y] => (match dv M x, dv M y with
    | some (.lst a), some (.lst b) => if a.length + b.length ≤ sizeLine then some (.ok (.r M.length) (M ++ [.lst (a ++ b)])) else none
    | _, _ => none)
  | _ => none
def eCat (g h : EX) : EX := fun ρ M => bnd (g ρ M) fun x M1 => bnd (h ρ M1) fun y M2 => mkCat [x, y] M2
end Mi
namespace Mi
open PySem PySem.Spec PyProof.Rows L2
end Mi
namespace Mi
open PySem PySem.Spec PyProof.Rows L2
end Mi
namespace Mi
open PySem PySem.Spec PyProof.Rows L2
def iSeqA (g : EX) : IX := fun ρ M => bnd (g ρ M) fun v M1 => match v with
  | .d x => (match itD x with
    | some ds => some (.ok ds M1)
    | none => none)
  | .r k => (match M1[k]? with
    | some (.lst ds) => some (.ok ds (M1.set k .gone))
    | _ => none)
section
variable {X : Cx} {T : Tb} {W : WX} {g h f : EX} {a b c : Expr} {pos : Pos}
def getKD2 (y x z : PD) : Option PD := match y with
  | .dct ks ds => (match kOf x with
    | some k => some ((valD ks ds k).getD z)
    | none => none)
  | _ => none
def op3 (f : PD → PD → PD → Option PD) (x y z : VL) (M : MH) : Option (Rs VL) := match dv M x, dv M y, z with
  | some a, some b, .d c => okD M (f a b c)
  | _, _, _ => none
def eGetK2 (g h f : EX) : EX := fun ρ M => bnd (g ρ M) fun x M1 => if isDc M1 x = true then bnd (h ρ M1) fun y M2 => bnd (f ρ M2) fun z M3 => op3 getKD2 x y z M3 else none
theorem merge_nodup (more : List (Key × V)) : ∀ kvs : List (Key × V), (kvs.map (·.1) ++ more.map (·.1)).Nodup → mergeK kvs more = kvs ++ more := by
  induction more with
  | nil => intro kvs _; show kvs = _; rw [List.append_nil]
  | cons q more ih =>
    intro kvs h
    have hk : ¬ (kvs.any fun kv => decide (kv.1 = q.1)) = true := by
      intro z
      rw [List.any_eq_true] at z
      obtain ⟨w, hw, e⟩ := z
      have e := of_decide_eq_true e
      rw [List.nodup_append] at h
      exact h.2.2 w.1 (List.mem_map.mpr ⟨w, hw, rfl⟩) q.1 (List.mem_map.mpr ⟨q, List.mem_cons_self, rfl⟩) e
    have e1 : mergeK kvs (q :: more) = mergeK (putK kvs q.1 q.2) more := rfl
    have e2 : putK kvs q.1 q.2 = kvs ++ [q] := by
      unfold putK
      rw [if_neg hk]
    have h2 : ((kvs ++ [q]).map (·.1) ++ more.map (·.1)).Nodup := by
      rw [List.map_append, List.append_assoc]
      exact h
    rw [e1, e2, ih _ h2, List.append_assoc]
    rfl
def mutL (x : VL) (M : MH) : Option (Rs VL) := match x with
  | .d (.lst ds) => some (.ok (.r M.length) (M ++ [.lst ds]))
  | .d (.tup ds) => some (.ok (.r M.length) (M ++ [.lst ds]))
  | _ => none
def eMutL (g : EX) : EX := fun ρ M => bnd (g ρ M) fun x M1 => mutL x M1
def mutRg (x : VL) (M : MH) : Option (Rs VL) := match x with
  | .d (.int j) => if rgOk 0 j = true then some (.ok (.r M.length) (M ++ [.lst (rangeL 0 j)])) else none
  | _ => none
def eMutRg (g : EX) : EX := fun ρ M => bnd (g ρ M) fun x M1 => mutRg x M1
end
end Mi
namespace Mi
open PySem PySem.Spec PyProof.Rows L2
end Mi
namespace Mi
open PySem PySem.Spec PyProof.Rows L2
def sortedX : List PD → Option PD
  | [.lst a] => sortedD [.lst a]
  | [.tup a] => (match intsOf a with
    | some ns => some (.lst ((srtI ns).map .int))
    | none => none)
  | _ => none
end Mi
namespace Mi
open PySem PySem.Spec PyProof.Rows PySem.W L2
/-- at v: a tuple of these numbers -/
def IsTI (h : Heap) (v : Value) (ns : List Int) : Prop := ∃ (a : Addr) (o : Obj) (items : Array Value) (n : Nat), v = .ref a ∧ h.get? a = some o ∧ o.cls = .type "tuple" ∧ o.data = .seq items n ∧ IntsAre items.toList ns
theorem IsTI.keeps {h h' : Heap} {v : Value} {ns : List Int} (x : IsTI h v ns) (k : ∀ b o, v = .ref b → h.get? b = some o → h'.get? b = some o) : IsTI h' v ns := by
  obtain ⟨a, o, items, n, e, g, c, d, i⟩ := x
  exact ⟨a, o, items, n, e, k _ _ e g, c, d, i⟩
theorem IsTI.type {M : Model} {h : Heap} {v : Value} {ns : List Int} (x : IsTI h v ns) : Looks M h (typeOf v) (.type "tuple") := by
  obtain ⟨a, o, items, n, rfl, g, c, d, i⟩ := x
  have := (show Looks M h (typeOf (.ref a)) o.cls from (Looks.ld g).andThen .now)
  rw [c] at this
  exact this
def srtR (R : List (List Int)) : List (List Int) := R.mergeSort fun a b => !HT.lexLt b a
def rowsOf : List PD → Option (List (List Int))
  | [] => some []
  | .tup xs :: r => (match intsOf xs, rowsOf r with
    | some ns, some R => some (ns :: R)
    | _, _ => none)
  | _ :: _ => none
def tR (R : List (List Int)) : List PD := R.map fun r => .tup (r.map .int)
def okRw (R : List (List Int)) : Bool := R.all (fun r => !r.isEmpty) || (match R with
  | [] :: _ => true
  | _ => false)
def sortedTD : List PD → Option PD
  | [.lst a] => (match rowsOf a with
    | some R => if okRw R = true then some (.lst (tR (srtR R))) else none
    | none => none)
  | _ => none
end Mi
namespace Mi
open PySem PySem.Spec PyProof.Rows PySem.W L2
def IsLI (h : Heap) (v : Value) (ns : List Int) : Prop := ∃ (a : Addr) (o : Obj) (items : Array Value) (n : Nat), v = .ref a ∧ h.get? a = some o ∧ o.cls = .type "list" ∧ o.data = .seq items n ∧ IntsAre items.toList ns
theorem IsLI.keeps {h h' : Heap} {v : Value} {ns : List Int} (x : IsLI h v ns) (k : ∀ b o, v = .ref b → h.get? b = some o → h'.get? b = some o) : IsLI h' v ns := by
  obtain ⟨a, o, items, n, e, g, c, d, i⟩ := x
  exact ⟨a, o, items, n, e, k _ _ e g, c, d, i⟩
theorem IsLI.type {M : Model} {h : Heap} {v : Value} {ns : List Int} (x : IsLI h v ns) : Looks M h (typeOf v) (.type "list") := by
  obtain ⟨a, o, items, n, rfl, g, c, d, i⟩ := x
  have := (show Looks M h (typeOf (.ref a)) o.cls from (Looks.ld g).andThen .now)
  rw [c] at this
  exact this
end Mi
namespace Mi
open PySem PySem.Spec PyProof.Rows L2
end Mi
namespace Mi
open PySem PySem.Spec PyProof.Rows L2
end Mi
namespace Mi
open PySem PySem.Spec PyProof.Rows L2
end Mi
namespace Mi
open PySem PySem.Spec PyProof.Rows L2
abbrev EW := Nat → List PD → MH → Prop
abbrev noE : EW := fun _ _ _ => False
def wpo {β : Type} (r : Option (Rs β)) (Q : β → MH → Prop) (E : EW) : Prop := match r with
  | none => False
  | some (.ok b M) => Q b M
  | some (.ex c xs M) => E c xs M
def wps (r : Option (Fl × EV × MH)) (Q : Fl → EV → MH → Prop) : Prop := match r with
  | none => False
  | some (fl, ρ, M) => Q fl ρ M
section
variable {β γ : Type} {Q : β → MH → Prop} {E : EW} {M : MH} {ρ : EV}
@[simp] theorem wpo_ok {b : β} : wpo (some (.ok b M)) Q E ↔ Q b M := Iff.rfl
@[simp] theorem wpo_ex {c : Nat} {xs : List PD} : wpo (some (.ex c xs M) : Option (Rs β)) Q E ↔ E c xs M := Iff.rfl
@[simp] theorem wpo_none : wpo (none : Option (Rs β)) Q E ↔ False := Iff.rfl
@[simp] theorem wpo_bnd {r : Option (Rs γ)} {f : γ → MH → Option (Rs β)} : wpo (bnd r f) Q E ↔ wpo r (fun b M1 => wpo (f b M1) Q E) E := by
  cases r with
  | none => exact Iff.rfl
  | some z => cases z <;> exact Iff.rfl
theorem wpo_imp {r : Option (Rs β)} {Q' : β → MH → Prop} {E' : EW} (h : wpo r Q E) (h1 : ∀ b M, Q b M → Q' b M) (h2 : ∀ c xs M, E c xs M → E' c xs M) : wpo r Q' E' := by
  cases r with
  | none => exact h
  | some z =>
    cases z with
    | ok b M => exact h1 _ _ h
    | ex c xs M => exact h2 _ _ _ h
theorem wpo_mono {r : Option (Rs β)} {Q' : β → MH → Prop} (h : wpo r Q' E) (h1 : ∀ b M, Q' b M → Q b M) : wpo r Q E := wpo_imp h h1 fun _ _ _ x => x
/-- a promise without errors, used -/
theorem wpo_by {r : Option (Rs β)} {Q' : β → MH → Prop} (h : wpo r Q' noE) (h1 : ∀ b M, Q' b M → Q b M) : wpo r Q E := wpo_imp h h1 fun _ _ _ x => x.elim
theorem wpo_get {r : Option (Rs β)} (h : wpo r Q noE) : ∃ b M, r = some (.ok b M) ∧ Q b M := by
  cases r with
  | none => exact h.elim
  | some z =>
    cases z with
    | ok b M => exact ⟨b, M, rfl, h⟩
    | ex c xs M => exact h.elim
end
/-- a test's two ways -/
def ifB (c : Bool) (A B : Prop) : Prop := match c with
  | true => A
  | false => B
@[simp] theorem ifB_t {A B : Prop} : ifB true A B ↔ A := Iff.rfl
@[simp] theorem ifB_f {A B : Prop} : ifB false A B ↔ B := Iff.rfl
theorem ifB_by {c : Bool} {A B : Prop} (h : c = true → A) (h' : c = false → B) : ifB c A B := by
  cases c
  · exact h' rfl
  · exact h rfl
theorem ifB_dec {p : Prop} [Decidable p] {A B : Prop} (h : p → A) (h' : ¬ p → B) : ifB (decide p) A B := ifB_by (fun e => h (of_decide_eq_true e)) (fun e => h' (of_decide_eq_false e))
def wpD {α : Type} (r : Option α) (Q : α → Prop) : Prop := match r with
  | some c => Q c
  | none => False
@[simp] theorem wpD_some {α : Type} {c : α} {Q : α → Prop} : wpD (some c) Q ↔ Q c := Iff.rfl
@[simp] theorem wpD_none {α : Type} {Q : α → Prop} : wpD (none : Option α) Q ↔ False := Iff.rfl
theorem wpD_bind {α β : Type} {r : Option α} {f : α → Option β} {Q : β → Prop} : wpD (r.bind f) Q ↔ wpD r fun a => wpD (f a) Q := by cases r <;> exact Iff.rfl
def isBl (x : VL) (Q : Bool → Prop) : Prop := match x with
  | .d (.bl b) => Q b
  | _ => False
@[simp] theorem isBl_d {b : Bool} {Q : Bool → Prop} : isBl (.d (.bl b)) Q ↔ Q b := Iff.rfl
def isDt (x : VL) (Q : PD → Prop) : Prop := match x with
  | .d b => Q b
  | _ => False
@[simp] theorem isDt_d {b : PD} {Q : PD → Prop} : isDt (.d b) Q ↔ Q b := Iff.rfl
def isIn (x : VL) (Q : Int → Prop) : Prop := match x with
  | .d (.int b) => Q b
  | _ => False
@[simp] theorem isIn_d {b : Int} {Q : Int → Prop} : isIn (.d (.int b)) Q ↔ Q b := Iff.rfl
section
variable {Q : Fl → EV → MH → Prop} {M : MH} {ρ : EV}
@[simp] theorem wps_some {fl : Fl} : wps (some (fl, ρ, M)) Q ↔ Q fl ρ M := Iff.rfl
@[simp] theorem wps_none : wps none Q ↔ False := Iff.rfl
@[simp] theorem wps_bnd {β : Type} {r : Option (Rs β)} {f : β → MH → Option (Fl × EV × MH)} : wps (bndS r ρ f) Q ↔ wpo r (fun b M1 => wps (f b M1) Q) (fun c xs M1 => Q (.ex c xs) ρ M1) := by
  cases r with
  | none => exact Iff.rfl
  | some z => cases z <;> exact Iff.rfl
theorem wps_mono {r : Option (Fl × EV × MH)} {Q' : Fl → EV → MH → Prop} (h : wps r Q') (h1 : ∀ fl ρ M, Q' fl ρ M → Q fl ρ M) : wps r Q := by
  cases r with
  | none => exact h
  | some z => obtain ⟨fl, ρ, M⟩ := z; exact h1 _ _ _ h
/-- behind a statement -/
def andThen (b : SX) (Q : Fl → EV → MH → Prop) : Fl → EV → MH → Prop
  | .nx, ρ, M => wps (b ρ M) Q
  | fl, ρ, M => Q fl ρ M
theorem andThen_nx {b : SX} : andThen b Q .nx ρ M ↔ wps (b ρ M) Q := Iff.rfl
@[simp] theorem andThen_bk {b : SX} : andThen b Q .bk ρ M ↔ Q .bk ρ M := Iff.rfl
@[simp] theorem andThen_ct {b : SX} : andThen b Q .ct ρ M ↔ Q .ct ρ M := Iff.rfl
@[simp] theorem andThen_rt {b : SX} {v : VL} : andThen b Q (.rt v) ρ M ↔ Q (.rt v) ρ M := Iff.rfl
@[simp] theorem andThen_ex {b : SX} {c : Nat} {xs : List PD} : andThen b Q (.ex c xs) ρ M ↔ Q (.ex c xs) ρ M := Iff.rfl
@[simp] theorem wps_seq {a b : SX} : wps (sSeq a b ρ M) Q ↔ wps (a ρ M) (andThen b Q) := by
  unfold sSeq
  cases a ρ M with
  | none => exact Iff.rfl
  | some z =>
    obtain ⟨fl, ρ1, M1⟩ := z
    cases fl <;> exact Iff.rfl
@[simp] theorem wps_nx : wps (sNx ρ M) Q ↔ Q .nx ρ M := Iff.rfl
@[simp] theorem wps_asg {i : Nat} {g : EX} : wps (sAsg i g ρ M) Q ↔ wpo (g ρ M) (fun v M1 => Q .nx (ρ.set i (some v)) M1) (fun c xs M1 => Q (.ex c xs) ρ M1) := by
  unfold sAsg; rw [wps_bnd]; rfl
@[simp] theorem wps_exp {g : EX} : wps (sExp g ρ M) Q ↔ wpo (g ρ M) (fun _ M1 => Q .nx ρ M1) (fun c xs M1 => Q (.ex c xs) ρ M1) := by
  unfold sExp; rw [wps_bnd]; rfl
@[simp] theorem wps_ret {g : EX} : wps (sRet g ρ M) Q ↔ wpo (g ρ M) (fun v M1 => Q (.rt v) ρ M1) (fun c xs M1 => Q (.ex c xs) ρ M1) := by
  unfold sRet; rw [wps_bnd]; rfl
@[simp] theorem wps_retN : wps (sRetN ρ M) Q ↔ Q (.rt (.d .non)) ρ M := Iff.rfl
@[simp] theorem wps_brk : wps (sBrk ρ M) Q ↔ Q .bk ρ M := Iff.rfl
@[simp] theorem wps_cont : wps (sCont ρ M) Q ↔ Q .ct ρ M := Iff.rfl
@[simp] theorem wps_never : wps (sNone ρ M) Q ↔ False := Iff.rfl
@[simp] theorem wps_if {t : TX} {a b : SX} : wps (sIf t a b ρ M) Q ↔ wpo (t ρ M) (fun c M1 => ifB c (wps (a ρ M1) Q) (wps (b ρ M1) Q)) (fun c xs M1 => Q (.ex c xs) ρ M1) := by
  unfold sIf; rw [wps_bnd]
  constructor <;> intro h <;> refine wpo_mono h fun c M h => ?_ <;> cases c <;> exact h
@[simp] theorem wps_asgG {tg : TGX} {g : EX} : wps (sAsgG tg g ρ M) Q ↔ wpo (g ρ M) (fun v M1 => wpD (tg v ρ M1) fun p => Q .nx p.1 p.2) (fun c xs M1 => Q (.ex c xs) ρ M1) := by
  unfold sAsgG; rw [wps_bnd]
  constructor <;> intro h <;> refine wpo_mono h fun v M1 h => ?_
  · cases h2 : tg v ρ M1 with
    | none => rw [h2] at h; exact h.elim
    | some z => rw [h2] at h; exact h
  · cases h2 : tg v ρ M1 with
    | none => rw [h2] at h; exact h.elim
    | some z => rw [h2] at h; exact h
@[simp] theorem wps_for0 {tg : TGX} {it : IX} {b : SX} : wps (sFor tg it b ρ M) Q ↔ wpo (it ρ M) (fun ds M1 => wps (forL tg b ds ρ M1) Q) (fun c xs M1 => Q (.ex c xs) ρ M1) := by
  unfold sFor; rw [wps_bnd]
/-- a turn's end -/
def turnQ (N : EV → MH → Prop) (Q : Fl → EV → MH → Prop) : Fl → EV → MH → Prop
  | .nx, ρ, M => N ρ M
  | .ct, ρ, M => N ρ M
  | .bk, ρ, M => Q .nx ρ M
  | fl, ρ, M => Q fl ρ M
@[simp] theorem turnQ_nx {N : EV → MH → Prop} : turnQ N Q .nx ρ M ↔ N ρ M := Iff.rfl
@[simp] theorem turnQ_ct {N : EV → MH → Prop} : turnQ N Q .ct ρ M ↔ N ρ M := Iff.rfl
@[simp] theorem turnQ_bk {N : EV → MH → Prop} : turnQ N Q .bk ρ M ↔ Q .nx ρ M := Iff.rfl
@[simp] theorem turnQ_rt {N : EV → MH → Prop} {v : VL} : turnQ N Q (.rt v) ρ M ↔ Q (.rt v) ρ M := Iff.rfl
@[simp] theorem turnQ_ex {N : EV → MH → Prop} {c : Nat} {xs : List PD} : turnQ N Q (.ex c xs) ρ M ↔ Q (.ex c xs) ρ M := Iff.rfl
theorem wps_turn {r : Option (Fl × EV × MH)} {next : EV → MH → Option (Fl × EV × MH)} : wps (turnE r next) Q ↔ wps r (turnQ (fun ρ M => wps (next ρ M) Q) Q) := by
  cases r with
  | none => exact Iff.rfl
  | some z =>
    obtain ⟨fl, ρ, M⟩ := z
    cases fl <;> exact Iff.rfl
theorem wps_forL {tg : TGX} {b : SX} {ds : List PD} (I : Nat → EV → MH → Prop) (h0 : I 0 ρ M)
    (hs : ∀ i d ρ M, ds[i]? = some d → I i ρ M → wpD (tg (.d d) ρ M) fun p => wps (b p.1 p.2) (turnQ (I (i + 1)) Q)) (he : ∀ ρ M, I ds.length ρ M → Q .nx ρ M) : wps (forL tg b ds ρ M) Q := by
  have key : ∀ (n i : Nat) (ρ : EV) (M : MH), i + n = ds.length → I i ρ M → wps (forL tg b (ds.drop i) ρ M) Q := by
    intro n
    induction n with
    | zero =>
      intro i ρ M e h
      have : ds.drop i = [] := List.drop_eq_nil_of_le (by omega)
      rw [this]
      have e2 : i = ds.length := by omega
      subst e2
      exact he ρ M h
    | succ n ih =>
      intro i ρ M e h
      have hi : i < ds.length := by omega
      rw [List.drop_eq_getElem_cons hi]
      have h2 := hs i ds[i] ρ M (List.getElem?_eq_getElem hi) h
      unfold forL
      cases h1 : tg (.d ds[i]) ρ M with
      | none => rw [h1] at h2; exact h2.elim
      | some p =>
      obtain ⟨ρ1, M1⟩ := p
      rw [h1] at h2
      show wps (turnE (b ρ1 M1) (forL tg b (ds.drop (i + 1)))) Q
      rw [wps_turn]
      refine wps_mono h2 fun fl ρ M q => ?_
      cases fl with
      | nx => exact ih (i + 1) ρ M (by omega) q
      | ct => exact ih (i + 1) ρ M (by omega) q
      | bk => exact q
      | rt v => exact q
      | ex c xs => exact q
  exact key ds.length 0 ρ M (by omega) h0
theorem wps_whileN {t : TX} {b : SX} (I : Nat → EV → MH → Prop) (hs : ∀ m ρ M, I m ρ M → wpo (t ρ M) (fun c M1 => ifB c (wps (b ρ M1) (turnQ (fun ρ' M' => ∃ k, k < m ∧ I k ρ' M') Q)) (Q .nx ρ M1)) (fun c xs M1 => Q (.ex c xs) ρ M1)) :
    ∀ (n m : Nat) (ρ : EV) (M : MH), m < n → I m ρ M → wps (whileN n t b ρ M) Q
  | 0, m, _, _, h, _ => absurd h (by omega)
  | n + 1, m, ρ, M, h, hi => by
    unfold whileN
    rw [wps_bnd]
    refine wpo_mono (hs m ρ M hi) fun c M1 hc => ?_
    cases c with
    | false => exact hc
    | true =>
      rw [if_pos rfl]
      rw [wps_turn]
      refine wps_mono hc fun fl ρ M q => ?_
      cases fl with
      | nx => obtain ⟨k, hk, q⟩ := q; exact wps_whileN I hs n k ρ M (by omega) q
      | ct => obtain ⟨k, hk, q⟩ := q; exact wps_whileN I hs n k ρ M (by omega) q
      | bk => exact q
      | rt v => exact q
      | ex c xs => exact q
theorem wps_while {t : TX} {b : SX} (I : Nat → EV → MH → Prop) (m : Nat) (hm : m < 1152921504606846976) (h0 : I m ρ M)
    (hs : ∀ m ρ M, I m ρ M → wpo (t ρ M) (fun c M1 => ifB c (wps (b ρ M1) (turnQ (fun ρ' M' => ∃ k, k < m ∧ I k ρ' M') Q)) (Q .nx ρ M1)) (fun c xs M1 => Q (.ex c xs) ρ M1)) : wps (sWhile t b ρ M) Q := wps_whileN I hs _ m ρ M hm h0
end
section
variable {Q : VL → MH → Prop} {E : EW} {M : MH} {ρ : EV}
@[simp] theorem wpo_var {i : Nat} : wpo (eVar i ρ M) Q E ↔ ∃ v, ρ[i]? = some (some v) ∧ Q v M := by
  unfold eVar
  cases h : ρ[i]? with
  | none => simp
  | some o => cases o <;> simp
@[simp] theorem wpo_c {x : PD} : wpo (eC x ρ M) Q E ↔ Q (.d x) M := Iff.rfl
@[simp] theorem wpo_un {f : PD → Option PD} {g : EX} : wpo (eUn f g ρ M) Q E ↔ wpo (g ρ M) (fun x M1 => wpo (op1 f x M1) Q E) E := wpo_bnd
@[simp] theorem wpo_bin {f : PD → PD → Option PD} {g h : EX} : wpo (eBin f g h ρ M) Q E ↔ wpo (g ρ M) (fun x M1 => wpo (h ρ M1) (fun y M2 => wpo (op2 f x y M2) Q E) E) E := by
  unfold eBin; rw [wpo_bnd]
  constructor <;> intro h <;> exact wpo_mono h fun x M h => by first | exact wpo_bnd.mp h | exact wpo_bnd.mpr h
@[simp] theorem wpo_nil {Q : List VL → MH → Prop} : wpo (aNil ρ M) Q E ↔ Q [] M := Iff.rfl
@[simp] theorem wpo_cons {g : EX} {gs : AX} {Q : List VL → MH → Prop} : wpo (aCons g gs ρ M) Q E ↔ wpo (g ρ M) (fun x M1 => wpo (gs ρ M1) (fun xs M2 => Q (x :: xs) M2) E) E := by
  unfold aCons; rw [wpo_bnd]
  constructor <;> intro h <;> exact wpo_mono h fun x M h => by first | exact wpo_bnd.mp h | exact wpo_bnd.mpr h
@[simp] theorem wpo_app {f : List VL → MH → Option (Rs VL)} {gs : AX} : wpo (eApp f gs ρ M) Q E ↔ wpo (gs ρ M) (fun xs M1 => wpo (f xs M1) Q E) E := wpo_bnd
@[simp] theorem wpo_appK {n m : Nat} {idx : List Nat} {f : List VL → MH → Option (Rs VL)} {gs gk : AX} : wpo (eAppK n m idx f gs gk ρ M) Q E ↔ wpo (gs ρ M) (fun xs M1 => wpo (gk ρ M1) (fun zs M2 => xs.length = n ∧ zs.length = m ∧ wpo (f (permL idx (xs ++ zs)) M2) Q E) E) E := by
  unfold eAppK; rw [wpo_bnd]
  constructor <;> intro h <;> refine wpo_mono h fun xs M1 h => ?_
  · rw [wpo_bnd] at h
    refine wpo_mono h fun zs M2 h => ?_
    by_cases hl : xs.length = n ∧ zs.length = m
    · rw [if_pos hl] at h; exact ⟨hl.1, hl.2, h⟩
    · rw [if_neg hl] at h; exact h.elim
  · rw [wpo_bnd]
    refine wpo_mono h fun zs M2 h => ?_
    rw [if_pos ⟨h.1, h.2.1⟩]; exact h.2.2
@[simp] theorem wpo_eif {t : TX} {a b : EX} : wpo (eIf t a b ρ M) Q E ↔ wpo (t ρ M) (fun c M1 => ifB c (wpo (a ρ M1) Q E) (wpo (b ρ M1) Q E)) E := by
  unfold eIf; rw [wpo_bnd]
  constructor <;> intro h <;> refine wpo_mono h fun c M h => ?_ <;> cases c <;> exact h
@[simp] theorem wpo_asB {x : VL} {Q : Bool → MH → Prop} : wpo (asB M x) Q E ↔ isBl x fun b => Q b M := by
  cases x with
  | r k => exact Iff.rfl
  | d y => cases y <;> exact Iff.rfl
@[simp] theorem wpo_tBl {g : EX} {Q : Bool → MH → Prop} : wpo (tBl g ρ M) Q E ↔ wpo (g ρ M) (fun x M1 => isBl x fun b => Q b M1) E := by
  unfold tBl; rw [wpo_bnd]
  constructor <;> intro h <;> exact wpo_mono h fun x M h => by first | exact wpo_asB.mp h | exact wpo_asB.mpr h
@[simp] theorem wpo_tTru {g : EX} {Q : Bool → MH → Prop} : wpo (tTru g ρ M) Q E ↔ wpo (g ρ M) (fun x M1 => wpD (dv M1 x) fun d => wpD (truD d) fun b => Q b M1) E := by
  unfold tTru; rw [wpo_bnd]
  constructor <;> intro h <;> refine wpo_mono h fun x M h => ?_
  · cases h2 : dv M x with
    | none => rw [h2] at h; exact h.elim
    | some d =>
      rw [h2] at h
      dsimp only at h
      rw [wpD_some]
      cases h3 : truD d with
      | none => rw [h3] at h; exact h.elim
      | some b => rw [h3] at h; exact h
  · cases h2 : dv M x with
    | none => rw [h2] at h; exact h.elim
    | some d =>
      rw [h2, wpD_some] at h
      dsimp only
      cases h3 : truD d with
      | none => rw [h3] at h; exact h.elim
      | some b => rw [h3] at h; exact h
@[simp] theorem wpo_tIfx {s t u : TX} {Q : Bool → MH → Prop} : wpo (tIfx s t u ρ M) Q E ↔ wpo (s ρ M) (fun c M1 => ifB c (wpo (t ρ M1) Q E) (wpo (u ρ M1) Q E)) E := by
  unfold tIfx; rw [wpo_bnd]
  constructor <;> intro h <;> refine wpo_imp h (fun c M h => ?_) (fun _ _ _ h => h) <;> cases c <;> exact h
@[simp] theorem wpo_tAn {s t : TX} {Q : Bool → MH → Prop} : wpo (tAn s t ρ M) Q E ↔ wpo (s ρ M) (fun c M1 => ifB c (wpo (t ρ M1) Q E) (Q false M1)) E := by
  unfold tAn; rw [wpo_bnd]
  constructor <;> intro h <;> refine wpo_mono h fun c M h => ?_ <;> cases c <;> exact h
@[simp] theorem wpo_tOr {s t : TX} {Q : Bool → MH → Prop} : wpo (tOrr s t ρ M) Q E ↔ wpo (s ρ M) (fun c M1 => ifB c (Q true M1) (wpo (t ρ M1) Q E)) E := by
  unfold tOrr; rw [wpo_bnd]
  constructor <;> intro h <;> refine wpo_mono h fun c M h => ?_ <;> cases c <;> exact h
@[simp] theorem wpo_tNt {s : TX} {Q : Bool → MH → Prop} : wpo (tNt s ρ M) Q E ↔ wpo (s ρ M) (fun c M1 => Q (!c) M1) E := by
  unfold tNt; rw [wpo_bnd]; rfl
theorem isBl_mono {x : VL} {Q Q' : Bool → Prop} (h : isBl x Q) (k : ∀ b, Q b → Q' b) : isBl x Q' := by
  cases x with
  | r k => exact h
  | d y => cases y <;> first | exact k _ h | exact h
@[simp] theorem wpo_and {a b : EX} : wpo (eAnd a b ρ M) Q E ↔ wpo (a ρ M) (fun x M1 => isBl x fun c => ifB c (wpo (b ρ M1) Q E) (Q (.d (.bl false)) M1)) E := by
  unfold eAnd; rw [wpo_bnd]
  constructor <;> intro h <;> refine wpo_mono h fun x M h => ?_
  · rw [wpo_bnd, wpo_asB] at h
    exact isBl_mono h fun c h => by cases c <;> exact h
  · rw [wpo_bnd, wpo_asB]
    exact isBl_mono h fun c h => by cases c <;> exact h
@[simp] theorem wpo_or {a b : EX} : wpo (eOr a b ρ M) Q E ↔ wpo (a ρ M) (fun x M1 => isBl x fun c => ifB c (Q (.d (.bl true)) M1) (wpo (b ρ M1) Q E)) E := by
  unfold eOr; rw [wpo_bnd]
  constructor <;> intro h <;> refine wpo_mono h fun x M h => ?_
  · rw [wpo_bnd, wpo_asB] at h
    exact isBl_mono h fun c h => by cases c <;> exact h
  · rw [wpo_bnd, wpo_asB]
    exact isBl_mono h fun c h => by cases c <;> exact h
@[simp] theorem wpo_not {a : EX} : wpo (eNot a ρ M) Q E ↔ wpo (a ρ M) (fun x M1 => isBl x fun c => Q (.d (.bl (!c))) M1) E := by
  unfold eNot; rw [wpo_bnd]
  constructor <;> intro h <;> refine wpo_mono h fun x M h => ?_
  · rw [wpo_bnd, wpo_asB] at h
    exact h
  · rw [wpo_bnd, wpo_asB]
    exact h
@[simp] theorem wpo_chain {f f' : PD → PD → Option PD} {a b c : EX} : wpo (eChain f f' a b c ρ M) Q E ↔ wpo (a ρ M) (fun x M1 => wpo (b ρ M1) (fun y M2 => wpo (op2 f x y M2) (fun z M3 => isBl z fun k => ifB k (wpo (c ρ M3) (fun w M5 => wpo (op2 f' y w M5) Q E) E) (Q (.d (.bl false)) M3)) E) E) E := by
  unfold eChain; rw [wpo_bnd]
  constructor <;> intro h <;> refine wpo_mono h fun x M h => ?_
  · rw [wpo_bnd] at h
    refine wpo_mono h fun y M h => ?_
    rw [wpo_bnd] at h
    refine wpo_mono h fun z M h => ?_
    rw [wpo_bnd, wpo_asB] at h
    refine isBl_mono h fun k h => ?_
    cases k
    · exact h
    · exact wpo_bnd.mp h
  · rw [wpo_bnd]
    refine wpo_mono h fun y M h => ?_
    rw [wpo_bnd]
    refine wpo_mono h fun z M h => ?_
    rw [wpo_bnd, wpo_asB]
    refine isBl_mono h fun k h => ?_
    cases k
    · exact h
    · exact wpo_bnd.mpr h
@[simp] theorem wpo_chain3 {f f' f'' : PD → PD → Option PD} {a b c d : EX} : wpo (eChain3 f f' f'' a b c d ρ M) Q E ↔ wpo (a ρ M) (fun x M1 => wpo (b ρ M1) (fun y M2 => wpo (op2 f x y M2) (fun z M3 => isBl z fun k => ifB k (wpo (c ρ M3) (fun w M5 => wpo (op2 f' y w M5) (fun z2 M6 => isBl z2 fun k2 => ifB k2 (wpo (d ρ M6) (fun v M8 => wpo (op2 f'' w v M8) Q E) E) (Q (.d (.bl false)) M6)) E) E) (Q (.d (.bl false)) M3)) E) E) E := by
  unfold eChain3
  constructor <;> intro h
  · rw [wpo_bnd] at h
    refine wpo_mono h fun x M h => ?_
    rw [wpo_bnd] at h
    refine wpo_mono h fun y M h => ?_
    rw [wpo_bnd] at h
    refine wpo_mono h fun z M h => ?_
    rw [wpo_bnd, wpo_asB] at h
    refine isBl_mono h fun k h => ?_
    cases k
    · exact h
    · have h := wpo_bnd.mp h
      refine wpo_mono h fun w M h => ?_
      rw [wpo_bnd] at h
      refine wpo_mono h fun z M h => ?_
      rw [wpo_bnd, wpo_asB] at h
      refine isBl_mono h fun k h => ?_
      cases k
      · exact h
      · exact wpo_bnd.mp h
  · rw [wpo_bnd]
    refine wpo_mono h fun x M h => ?_
    rw [wpo_bnd]
    refine wpo_mono h fun y M h => ?_
    rw [wpo_bnd]
    refine wpo_mono h fun z M h => ?_
    rw [wpo_bnd, wpo_asB]
    refine isBl_mono h fun k h => ?_
    cases k
    · exact h
    · refine wpo_bnd.mpr ?_
      refine wpo_mono h fun w M h => ?_
      rw [wpo_bnd]
      refine wpo_mono h fun z M h => ?_
      rw [wpo_bnd, wpo_asB]
      refine isBl_mono h fun k h => ?_
      cases k
      · exact h
      · exact wpo_bnd.mpr h
@[simp] theorem op1_w {f : PD → Option PD} {x : VL} : wpo (op1 f x M) Q E ↔ wpD (dv M x) fun a => wpD (f a) fun c => Q (.d c) M := by
  unfold op1
  cases h1 : dv M x with
  | none => simp
  | some a =>
    show wpo (okD M (f a)) Q E ↔ _
    cases h3 : f a <;> simp [okD, h3]
@[simp] theorem op2_w {f : PD → PD → Option PD} {x y : VL} : wpo (op2 f x y M) Q E ↔ wpD (dv M x) fun a => wpD (dv M y) fun b => wpD (f a b) fun c => Q (.d c) M := by
  unfold op2
  cases h1 : dv M x with
  | none => simp
  | some a =>
    cases h2 : dv M y with
    | none => simp
    | some b =>
      show wpo (okD M (f a b)) Q E ↔ _
      cases h3 : f a b <;> simp [okD, h3]
@[simp] theorem opN_w {f : List PD → Option PD} {xs : List VL} : wpo (opN f xs M) Q E ↔ wpD (dvs M xs) fun ds => wpD (f ds) fun c => Q (.d c) M := by
  unfold opN
  cases h1 : dvs M xs with
  | none => simp
  | some a =>
    show wpo (okD M (f a)) Q E ↔ _
    cases h3 : f a <;> simp [okD, h3]
def moD : MO → Option PD
  | .lst ds => some (.lst ds)
  | .dct ks ds => some (.dct ks ds)
  | _ => none
def moL : MO → Option (List PD)
  | .lst ds => some ds
  | _ => none
@[simp] theorem moD_l {ds : List PD} : moD (.lst ds) = some (.lst ds) := rfl
@[simp] theorem moL_l {ds : List PD} : moL (.lst ds) = some ds := rfl
theorem dv_eq {k : Nat} : dv M (.r k) = M[k]?.bind moD := by
  show (match M[k]? with
    | some (.lst ds) => some (PD.lst ds)
    | some (.dct ks ds) => some (.dct ks ds)
    | _ => none) = _
  cases M[k]? with
  | none => rfl
  | some mo => cases mo <;> rfl
@[simp] theorem wpD_dv {k : Nat} {Q : PD → Prop} : wpD (dv M (.r k)) Q ↔ wpD M[k]? fun mo => wpD (moD mo) Q := by rw [dv_eq, wpD_bind]
@[simp] theorem wpD_dvs {x : VL} {xs : List VL} {Q : List PD → Prop} : wpD (dvs M (x :: xs)) Q ↔ wpD (dv M x) fun a => wpD (dvs M xs) fun as => Q (a :: as) := by
  show wpD (match dv M x, dvs M xs with
    | some a, some as => some (a :: as)
    | _, _ => none) Q ↔ _
  cases dv M x with
  | none => exact Iff.rfl
  | some a => cases dvs M xs <;> exact Iff.rfl
@[simp] theorem dv_d {x : PD} : dv M (.d x) = some x := rfl
@[simp] theorem dvs_nil : dvs M [] = some [] := rfl
@[simp] theorem pdsOf_nil : pdsOf [] = some [] := rfl
@[simp] theorem wpD_pds {x : VL} {xs : List VL} {Q : List PD → Prop} : wpD (pdsOf (x :: xs)) Q ↔ isDt x fun a => wpD (pdsOf xs) fun as => Q (a :: as) := by
  cases x with
  | r k => exact Iff.rfl
  | d a =>
    show wpD (match pdsOf xs with
      | some xs => some (a :: xs)
      | none => none) Q ↔ _
    cases pdsOf xs <;> exact Iff.rfl
def SzOk (n : Nat) : Prop := n ≤ sizeLine
@[simp] theorem mkTup_w {xs : List VL} : wpo (mkTup xs M) Q E ↔ wpD (pdsOf xs) fun ds => SzOk ds.length ∧ Q (.d (.tup ds)) M := by
  unfold mkTup SzOk
  cases pdsOf xs with
  | none => simp
  | some ds => by_cases h : ds.length ≤ sizeLine <;> simp [h]
@[simp] theorem mkLst_w {xs : List VL} : wpo (mkLst xs M) Q E ↔ wpD (pdsOf xs) fun ds => SzOk ds.length ∧ Q (.d (.lst ds)) M := by
  unfold mkLst SzOk
  cases pdsOf xs with
  | none => simp
  | some ds => by_cases h : ds.length ≤ sizeLine <;> simp [h]
@[simp] theorem mkMut_w {xs : List VL} : wpo (mkMut xs M) Q E ↔ wpD (pdsOf xs) fun ds => SzOk ds.length ∧ Q (.r M.length) (M ++ [.lst ds]) := by
  unfold mkMut SzOk
  cases pdsOf xs with
  | none => simp
  | some ds => by_cases h : ds.length ≤ sizeLine <;> simp [h]
theorem szOk_of {n : Nat} (h : n ≤ 16000000) : SzOk n := by
  unfold SzOk; rw [sizeLine_eq]; omega
@[simp] theorem szOk_0 : SzOk 0 := szOk_of (by omega)
@[simp] theorem szOk_1 : SzOk 1 := szOk_of (by omega)
@[simp] theorem szOk_2 : SzOk 2 := szOk_of (by omega)
@[simp] theorem szOk_3 : SzOk 3 := szOk_of (by omega)
@[simp] theorem szOk_4 : SzOk 4 := szOk_of (by omega)
@[simp] theorem szOk_5 : SzOk 5 := szOk_of (by omega)
end
/-- a def -/
def retQ (fz : Bool) (M : MH) (Q : VL → MH → Prop) (E : EW) : Fl → EV → MH → Prop
  | .nx, _, M' => Q (.d .non) (M'.take M.length)
  | .rt v, _, M' => wpo (retM fz M.length M' v) Q E
  | .ex c xs, _, M' => E c xs (M'.take M.length)
  | _, _, _ => False
section
variable {Q : VL → MH → Prop} {E : EW} {M M' : MH} {ρ : EV} {fz : Bool}
@[simp] theorem retQ_nx : retQ fz M Q E .nx ρ M' ↔ Q (.d .non) (M'.take M.length) := Iff.rfl
@[simp] theorem retQ_rt {v : VL} : retQ fz M Q E (.rt v) ρ M' ↔ wpo (retM fz M.length M' v) Q E := Iff.rfl
@[simp] theorem retQ_ex {c : Nat} {xs : List PD} : retQ fz M Q E (.ex c xs) ρ M' ↔ E c xs (M'.take M.length) := Iff.rfl
@[simp] theorem retQ_bk : retQ fz M Q E .bk ρ M' ↔ False := Iff.rfl
@[simp] theorem retQ_ct : retQ fz M Q E .ct ρ M' ↔ False := Iff.rfl
theorem wpo_fn {ar sl : Nat} {b : SX} {xs : List VL} : wpo (runFn fz ar sl b xs M) Q E ↔ xs.length = ar ∧ wps (b (xs.map some ++ List.replicate (sl - xs.length) none) M) (retQ fz M Q E) := by
  unfold runFn
  by_cases h : xs.length = ar
  · rw [if_pos h]
    cases b (xs.map some ++ List.replicate (sl - xs.length) none) M with
    | none => simp
    | some z =>
      obtain ⟨fl, ρ, M'⟩ := z
      cases fl <;> simp [h]
  · rw [if_neg h]
    simp [h]
theorem wpo_GG {tab : Nat → Option Body} {n f ar sl : Nat} {b : (Nat → Fn) → SX} {xs : List VL} (h : tab f = some (fz, ar, sl, b)) : wpo (GG tab (n + 1) f xs M) Q E ↔ xs.length = ar ∧ wps (b (GG tab n) (xs.map some ++ List.replicate (sl - xs.length) none) M) (retQ fz M Q E) := by
  rw [GG_succ h]; exact wpo_fn
@[simp] theorem retM_d {n : Nat} {x : PD} : wpo (retM fz n M' (.d x)) Q E ↔ Q (.d x) (M'.take n) := Iff.rfl
theorem retM_mut {n : Nat} {ds : List PD} {k : Nat} (hk : n ≤ k) (h : M'[k]? = some (.lst ds)) : wpo (retM false n M' (.r k)) Q E ↔ Q (.r n) (M'.take n ++ [.lst ds]) := by
  show wpo (if k < n then _ else _) Q E ↔ _
  rw [if_neg (by omega), h]
  exact Iff.rfl
end
section
variable {bd : PD → EV → Option EV} {t : TX} {e : EX} {M : MH} {ρ : EV}
@[simp] theorem wpo_lc {Q : VL → MH → Prop} {E : EW} {vs : List Nat} {it : IX} : wpo (eLc vs bd it t e ρ M) Q E ↔ wpo (it ρ M) (fun ds M1 => wpD (lcL bd t e ds (wipeE ρ vs) M1) fun p => SzOk p.1.length ∧ Q (.d (.lst p.1)) p.2) E := by
  unfold eLc; rw [wpo_bnd]
  constructor <;> intro h <;> refine wpo_mono h fun ds M1 h => ?_
  · cases h1 : lcL bd t e ds (wipeE ρ vs) M1 with
    | none => rw [h1] at h; exact h.elim
    | some z =>
      obtain ⟨ys, M2⟩ := z
      rw [h1] at h
      dsimp only at h
      by_cases h2 : ys.length ≤ sizeLine
      · rw [if_pos h2] at h; exact ⟨h2, h⟩
      · rw [if_neg h2] at h; exact h.elim
  · cases h1 : lcL bd t e ds (wipeE ρ vs) M1 with
    | none => rw [h1] at h; exact h.elim
    | some z =>
      obtain ⟨ys, M2⟩ := z
      rw [h1] at h
      obtain ⟨h2, h3⟩ := h
      have h2 : ys.length ≤ sizeLine := h2
      dsimp only
      rw [if_pos h2]
      exact h3
end
section
variable {M : MH} {ρ : EV} {E : EW} {Q : List PD → MH → Prop}
@[simp] theorem wpo_seq {g : EX} : wpo (iSeq g ρ M) Q E ↔ wpo (g ρ M) (fun v M1 => isDt v fun x => wpD (itD x) fun ds => Q ds M1) E := by
  unfold iSeq; rw [wpo_bnd]
  constructor <;> intro h <;> refine wpo_mono h fun v M1 h => ?_
  · cases v with
    | r k => exact h.elim
    | d x =>
      dsimp only at h
      rw [isDt_d]
      cases h1 : itD x with
      | none => rw [h1] at h; exact h.elim
      | some ds => rw [h1] at h; exact h
  · cases v with
    | r k => exact h.elim
    | d x =>
      dsimp only
      rw [isDt_d] at h
      cases h1 : itD x with
      | none => rw [h1] at h; exact h.elim
      | some ds => rw [h1] at h; exact h
@[simp] theorem wpo_range1 {g : EX} : wpo (iRange1 g ρ M) Q E ↔ wpo (g ρ M) (fun v M1 => isIn v fun j => smallI j = true ∧ Q (rangeL 0 j) M1) E := by
  unfold iRange1; rw [wpo_bnd]
  constructor <;> intro h <;> refine wpo_mono h fun v M1 h => ?_
  · split at h
    · split at h
      · rename_i h1; exact ⟨h1, h⟩
      · exact h.elim
    · exact h.elim
  · unfold isIn at h
    split at h
    · try dsimp only
      rw [if_pos h.1]; exact h.2
    · exact h.elim
@[simp] theorem wpo_range2 {g h : EX} : wpo (iRange2 g h ρ M) Q E ↔ wpo (g ρ M) (fun v M1 => wpo (h ρ M1) (fun w M2 => isIn v fun i => isIn w fun j => smallI i = true ∧ smallI j = true ∧ Q (rangeL i j) M2) E) E := by
  unfold iRange2; rw [wpo_bnd]
  constructor <;> intro h <;> refine wpo_mono h fun v M1 h => ?_
  · rw [wpo_bnd] at h
    refine wpo_mono h fun w M2 h => ?_
    split at h
    · split at h
      · rename_i h1
        rw [Bool.and_eq_true] at h1
        exact ⟨h1.1, h1.2, h⟩
      · exact h.elim
    · exact h.elim
  · rw [wpo_bnd]
    refine wpo_mono h fun w M2 h => ?_
    unfold isIn at h
    split at h
    · split at h
      · dsimp only
        rw [if_pos (by rw [h.1, h.2.1]; rfl)]; exact h.2.2
      · exact h.elim
    · exact h.elim
@[simp] theorem wpo_enum {g : EX} : wpo (iEnumD g ρ M) Q E ↔ wpo (g ρ M) (fun v M1 => isDt v fun x => wpD (enOf x) fun ds => Q (enumL ds) M1) E := by
  unfold iEnumD; rw [wpo_bnd]
  constructor <;> intro h <;> refine wpo_mono h fun v M1 h => ?_
  · cases v with
    | r k => exact h.elim
    | d x =>
      dsimp only at h
      rw [isDt_d]
      cases h1 : enOf x with
      | none => rw [h1] at h; exact h.elim
      | some ds => rw [h1] at h; exact h
  · cases v with
    | r k => exact h.elim
    | d x =>
      dsimp only
      rw [isDt_d] at h
      cases h1 : enOf x with
      | none => rw [h1] at h; exact h.elim
      | some ds => rw [h1] at h; exact h
theorem rangeL_get {lo hi : Int} {i : Nat} {d : PD} (h : (rangeL lo hi)[i]? = some d) : d = .int (lo + i) ∧ lo + i < hi := by
  unfold rangeL at h
  rw [List.getElem?_map] at h
  cases h2 : (List.range (hi - lo).toNat)[i]? with
  | none => rw [h2] at h; cases h
  | some k =>
    rw [h2] at h
    obtain ⟨l, q⟩ := List.getElem?_eq_some_iff.mp h2
    rw [List.getElem_range] at q
    rw [List.length_range] at l
    subst q
    exact ⟨(Option.some.inj h).symm, by omega⟩
theorem rangeL_len (lo hi : Int) : (rangeL lo hi).length = (hi - lo).toNat := by simp [rangeL]
end
section
variable {M : MH} {ρ : EV} {E : EW} {Q : VL → MH → Prop}
@[simp] theorem wpo_mt1 {f : VL → VL → MH → Option (Rs VL)} {g h : EX} : wpo (eMt1 f g h ρ M) Q E ↔ wpo (g ρ M) (fun x M1 => isL M1 x = true ∧ wpo (h ρ M1) (fun y M2 => wpo (f x y M2) Q E) E) E := by
  unfold eMt1; rw [wpo_bnd]
  constructor <;> intro h <;> refine wpo_mono h fun x M1 h => ?_
  · by_cases h1 : isL M1 x = true
    · rw [if_pos h1, wpo_bnd] at h; exact ⟨h1, h⟩
    · rw [if_neg h1] at h; exact h.elim
  · rw [if_pos h.1, wpo_bnd]; exact h.2
@[simp] theorem isL_r {k : Nat} : isL M (.r k) = true ↔ wpD M[k]? fun mo => wpD (moL mo) fun _ => True := by
  unfold isL
  rw [dv_eq]
  cases M[k]? with
  | none => simp
  | some mo => cases mo <;> simp [moD, moL]
@[simp] theorem isL_d {ds : List PD} : isL M (.d (.lst ds)) = true ↔ True := ⟨fun _ => trivial, fun _ => rfl⟩
def LtSz (n : Nat) : Prop := n < sizeLine
theorem ltSz_of {n : Nat} (h : n ≤ 16000000) : LtSz n := by
  unfold LtSz; rw [sizeLine_eq]; omega
@[simp] theorem apnd_w {k : Nat} {d : PD} : wpo (apndX (.r k) (.d d) M) Q E ↔ wpD M[k]? fun mo => wpD (moL mo) fun ds => LtSz ds.length ∧ Q (.d .non) (M.set k (.lst (ds ++ [d]))) := by
  unfold apndX LtSz
  dsimp only
  cases M[k]? with
  | none => simp
  | some mo =>
    cases mo with
    | lst ds =>
      dsimp only
      by_cases h1 : ds.length < sizeLine <;> simp [h1]
    | _ => simp [moL]
@[simp] theorem wpo_apnd {g h : EX} : wpo (eApnd g h ρ M) Q E ↔ wpo (g ρ M) (fun x M1 => isL M1 x = true ∧ wpo (h ρ M1) (fun y M2 => wpo (apndX x y M2) Q E) E) E := wpo_mt1
@[simp] theorem wpo_ext {g h : EX} : wpo (eExt g h ρ M) Q E ↔ wpo (g ρ M) (fun x M1 => isL M1 x = true ∧ wpo (h ρ M1) (fun y M2 => wpo (extX x y M2) Q E) E) E := wpo_mt1
theorem setX_w {k : Nat} {d : PD} {i : Int} {Q : MH → Prop} : wpD (setX (.r k) (.d (.int i)) (.d d) M) Q ↔ wpD M[k]? fun mo => wpD (moL mo) fun ds => wpD (ixN ds.length i) fun j => Q (M.set k (.lst (ds.set j d))) := by
  unfold setX
  dsimp only
  cases M[k]? with
  | none => simp
  | some mo =>
    cases mo with
    | lst ds =>
      dsimp only
      cases h : ixN ds.length i <;> simp [moL, h]
    | _ => simp [moL]
@[simp] theorem wpD_sb {go gi : EX} {v : VL} {Q : EV × MH → Prop} : wpD (gSb go gi v ρ M) Q ↔ wpo (go ρ M) (fun o M1 => wpo (gi ρ M1) (fun i M2 => wpD (setX o i v M2) fun M3 => Q (ρ, M3)) noE) noE := by
  unfold gSb
  cases go ρ M with
  | none => simp
  | some z =>
    cases z with
    | ex c xs M1 => simp
    | ok o M1 =>
      dsimp only
      rw [wpo_ok]
      cases gi ρ M1 with
      | none => simp
      | some z =>
        cases z with
        | ex c xs M1 => simp
        | ok i M2 =>
          dsimp only
          rw [wpo_ok]
          cases setX o i v M2 <;> simp
@[simp] theorem wpo_sl {g : EX} {lo hi : OX} : wpo (eSl g lo hi ρ M) Q E ↔ wpo (g ρ M) (fun x M1 => wpo (lo ρ M1) (fun l M2 => wpo (hi ρ M2) (fun h M3 => wpD (dv M3 x) fun d => wpD (slD d l h) fun c => Q (.d c) M3) E) E) E := by
  unfold eSl; rw [wpo_bnd]
  constructor <;> intro h <;> refine wpo_mono h fun x M1 h => ?_
  · rw [wpo_bnd] at h
    refine wpo_mono h fun l M2 h => ?_
    rw [wpo_bnd] at h
    refine wpo_mono h fun u M3 h => ?_
    cases h1 : dv M3 x with
    | none => rw [h1] at h; exact h.elim
    | some d =>
      rw [h1] at h
      rw [wpD_some]
      cases h2 : slD d l u with
      | none => simp only [h2] at h; exact h.elim
      | some c => simp only [h2] at h; exact h
  · rw [wpo_bnd]
    refine wpo_mono h fun l M2 h => ?_
    rw [wpo_bnd]
    refine wpo_mono h fun u M3 h => ?_
    cases h1 : dv M3 x with
    | none => rw [h1] at h; exact h.elim
    | some d =>
      rw [h1, wpD_some] at h
      dsimp only
      cases h2 : slD d l u with
      | none => rw [h2] at h; exact h.elim
      | some c => rw [h2] at h; exact h
@[simp] theorem wpo_oNo {Q : Option Int → MH → Prop} : wpo (oNo ρ M) Q E ↔ Q none M := Iff.rfl
@[simp] theorem wpo_oSo {g : EX} {Q : Option Int → MH → Prop} : wpo (oSo g ρ M) Q E ↔ wpo (g ρ M) (fun x M1 => isIn x fun i => Q (some i) M1) E := by
  unfold oSo; rw [wpo_bnd]
  constructor <;> intro h <;> refine wpo_mono h fun x M1 h => ?_
  · split at h
    · exact h
    · exact h.elim
  · unfold isIn at h
    split at h
    · exact h
    · exact h.elim
end
section
variable {ρ : EV} {M : MH} {Q : Fl → EV → MH → Prop}
def two (vs : List VL) (k : VL → VL → Prop) : Prop := match vs with
  | [u, v] => k u v
  | _ => False
def three (vs : List VL) (k : VL → VL → VL → Prop) : Prop := match vs with
  | [u, v, w] => k u v w
  | _ => False
@[simp] theorem two_eq {u v : VL} {k : VL → VL → Prop} : two [u, v] k ↔ k u v := Iff.rfl
@[simp] theorem three_eq {u v w : VL} {k : VL → VL → VL → Prop} : three [u, v, w] k ↔ k u v w := Iff.rfl
@[simp] theorem wps_par2 {i j : Nat} {a : AX} : wps (sPar2 i j a ρ M) Q ↔ wpo (a ρ M) (fun vs M1 => two vs fun u v => Q .nx ((ρ.set i (some u)).set j (some v)) M1) (fun c xs M1 => Q (.ex c xs) ρ M1) := by
  unfold sPar2; rw [wps_bnd]
  constructor <;> intro h <;> refine wpo_mono h fun vs M1 h => ?_
  · split at h
    · exact h
    · exact h.elim
  · unfold two at h
    split at h
    · exact h
    · exact h.elim
@[simp] theorem wps_par3 {i j l : Nat} {a : AX} : wps (sPar3 i j l a ρ M) Q ↔ wpo (a ρ M) (fun vs M1 => three vs fun u v w => Q .nx (((ρ.set i (some u)).set j (some v)).set l (some w)) M1) (fun c xs M1 => Q (.ex c xs) ρ M1) := by
  unfold sPar3; rw [wps_bnd]
  constructor <;> intro h <;> refine wpo_mono h fun vs M1 h => ?_
  · split at h
    · exact h
    · exact h.elim
  · unfold three at h
    split at h
    · exact h
    · exact h.elim
end
end Mi
namespace Mi
open PySem PySem.Spec PyProof.Rows L2
def MulOk (i j : Int) : Prop := i.natAbs.log2 + j.natAbs.log2 < 1000000
def DivOk (j : Int) : Prop := 0 < j ∧ j.natAbs.log2 < 9000
def PowOk (i j : Int) : Prop := 0 ≤ j ∧ j ≤ 1000000 ∧ i.natAbs < 2 ^ 64
theorem log2_lt {i : Int} {k : Nat} (h : -(2 ^ k) < i ∧ i < 2 ^ k) (hk : 0 < k) : i.natAbs.log2 < k := by
  refine PySem.Flt.log2_lt_of hk ?_
  have e : ((2 ^ k : Nat) : Int) = (2 : Int) ^ k := by simp
  omega
theorem mulOk_of {i j : Int} (hi : -(2 ^ 8000) < i ∧ i < 2 ^ 8000) (hj : -(2 ^ 8000) < j ∧ j < 2 ^ 8000) : MulOk i j := by
  have h1 := log2_lt hi (by decide)
  have h2 := log2_lt hj (by decide)
  unfold MulOk
  omega
theorem divOk_of {j : Int} (h0 : 0 < j) (hj : j < 2 ^ 8000) : DivOk j := by
  refine ⟨h0, Nat.lt_trans (log2_lt (k := 8000) ⟨?_, hj⟩ (by decide)) (by decide)⟩
  have : (0 : Int) < 2 ^ 8000 := Int.pow_pos (by decide)
  omega
section
variable {Q : PD → Prop} {i j : Int} {c : PD} {a b : List PD} {x y : Str} {p q : Bool}
@[simp] theorem addD_ii : addD (.int i) (.int j) = some (.int (i + j)) := rfl
@[simp] theorem addD_tt : wpD (addD (.tup a) (.tup b)) Q ↔ SzOk (a.length + b.length) ∧ Q (.tup (a ++ b)) := by
  unfold addD SzOk
  dsimp only
  split <;> simp [*]
@[simp] theorem addD_ll : wpD (addD (.lst a) (.lst b)) Q ↔ SzOk (a.length + b.length) ∧ Q (.lst (a ++ b)) := by
  unfold addD SzOk
  dsimp only
  split <;> simp [*]
@[simp] theorem addD_ss : wpD (addD (.str x) (.str y)) Q ↔ SzOk (x.length + y.length) ∧ Q (.str (x ++ y)) := by
  unfold addD SzOk
  dsimp only
  split <;> simp [*]
@[simp] theorem subD_ii : subD (.int i) (.int j) = some (.int (i - j)) := rfl
@[simp] theorem mulD_ii : wpD (mulD (.int i) (.int j)) Q ↔ MulOk i j ∧ Q (.int (i * j)) := by
  unfold mulD MulOk
  dsimp only
  split <;> simp [*]
@[simp] theorem fdivD_ii : wpD (fdivD (.int i) (.int j)) Q ↔ DivOk j ∧ Q (.int (i / j)) := by
  unfold fdivD DivOk
  dsimp only
  split <;> simp [*]
@[simp] theorem modD_ii : wpD (modD (.int i) (.int j)) Q ↔ 0 < j ∧ Q (.int (i % j)) := by
  unfold modD
  dsimp only
  split <;> simp [*]
@[simp] theorem powD_ii : wpD (powD (.int i) (.int j)) Q ↔ PowOk i j ∧ Q (.int (i ^ j.toNat)) := by
  unfold powD PowOk
  dsimp only
  split <;> simp [*]
@[simp] theorem negD_i : negD (.int i) = some (.int (-i)) := rfl
@[simp] theorem ltD_ii : ltD (.int i) (.int j) = some (.bl (decide (i < j))) := rfl
@[simp] theorem leD_ii : leD (.int i) (.int j) = some (.bl (decide (i ≤ j))) := rfl
@[simp] theorem gtD_ii : gtD (.int i) (.int j) = some (.bl (decide (j < i))) := rfl
@[simp] theorem geD_ii : geD (.int i) (.int j) = some (.bl (decide (j ≤ i))) := rfl
@[simp] theorem eqD_ii : eqD (.int i) (.int j) = some (.bl (decide (i = j))) := by
  unfold eqD toPy
  dsimp only
  rw [if_pos (by simp [PyData.depth])]
  rfl
@[simp] theorem neD_ii : neD (.int i) (.int j) = some (.bl (!decide (i = j))) := by
  unfold neD toPy
  dsimp only
  rw [if_pos (by simp [PyData.depth])]
  rfl
@[simp] theorem eqD_ss : eqD (.str x) (.str y) = some (.bl (decide (x = y))) := by
  unfold eqD toPy
  dsimp only
  rw [if_pos (by simp [PyData.depth])]
  show some (PD.bl (x == y)) = _
  rfl
@[simp] theorem neD_ss : neD (.str x) (.str y) = some (.bl (!decide (x = y))) := by
  unfold neD toPy
  dsimp only
  rw [if_pos (by simp [PyData.depth])]
  show some (PD.bl (!(x == y))) = _
  rfl
@[simp] theorem isD_n : isD (.non) (.non) = some (.bl true) := rfl
@[simp] theorem isD_in : isD (.int i) (.non) = some (.bl false) := rfl
@[simp] theorem isnotD_in : isnotD (.int i) (.non) = some (.bl true) := rfl
@[simp] theorem isiD_int_i : isiD "int" (.int i) = some (.bl true) := rfl
@[simp] theorem isiD_bool_i : isiD "bool" (.int i) = some (.bl false) := rfl
@[simp] theorem isiD_int_b : isiD "int" (.bl p) = some (.bl true) := rfl
@[simp] theorem isiD_bool_b : isiD "bool" (.bl p) = some (.bl true) := rfl
@[simp] theorem absD_i : absD [.int i] = some (.int (if i < 0 then -i else i)) := rfl
@[simp] theorem intD_i : intD [.int i] = some (.int i) := rfl
@[simp] theorem min2D_ii : min2D [.int i, .int j] = some (.int (if j < i then j else i)) := rfl
@[simp] theorem max2D_ii : max2D [.int i, .int j] = some (.int (if j > i then j else i)) := rfl
@[simp] theorem lenD_l : lenD [.lst a] = some (.int a.length) := rfl
@[simp] theorem lenD_s : lenD [.scr a] = some (.int a.length) := rfl
@[simp] theorem lenD_t : lenD [.tup a] = some (.int a.length) := rfl
@[simp] theorem idxD_l : idxD (.lst a) (.int i) = atI a i := rfl
@[simp] theorem idxD_s : idxD (.scr a) (.int i) = atI a i := rfl
@[simp] theorem idxD_t : idxD (.tup a) (.int i) = atI a i := rfl
@[simp] theorem slD_l {lo hi : Option Int} : slD (.lst a) lo hi = some (.lst (cutD a lo hi)) := rfl
@[simp] theorem slD_s {lo hi : Option Int} : slD (.scr a) lo hi = some (.lst (cutD a lo hi)) := rfl
@[simp] theorem slD_t {lo hi : Option Int} : slD (.tup a) lo hi = some (.tup (cutD a lo hi)) := rfl
@[simp] theorem revD_l : revD (.lst a) = some (.lst a.reverse) := rfl
@[simp] theorem truD_b : truD (.bl p) = some p := rfl
@[simp] theorem truD_i : truD (.int i) = some (i != 0) := rfl
@[simp] theorem truD_l : truD (.lst a) = some (!a.isEmpty) := rfl
@[simp] theorem truD_t : truD (.tup a) = some (!a.isEmpty) := rfl
@[simp] theorem itD_l : itD (.lst a) = some a := rfl
@[simp] theorem itD_t : itD (.tup a) = some a := rfl
@[simp] theorem itD_s : itD (.scr a) = some a := rfl
@[simp] theorem divmodW_ii : wpD (divmodW [.int i, .int j]) Q ↔ DivOk j ∧ Q (.tup [.int (i / j), .int (i % j)]) := by
  unfold divmodW DivOk
  dsimp only
  split <;> simp [*]
@[simp] theorem gNm_eq {k : Nat} {v : VL} {ρ : EV} {M : MH} : gNm k v ρ M = some (ρ.set k (some v), M) := rfl
@[simp] theorem bd1_eq {k : Nat} {d : PD} {ρ : EV} : bd1 k d ρ = some (ρ.set k (some (.d d))) := rfl
@[simp] theorem gTp_t {r : List PD → EV → MH → Option (EV × MH)} {ds : List PD} {ρ : EV} {M : MH} : gTp r (.d (.tup ds)) ρ M = r ds ρ M := rfl
@[simp] theorem gsNil_n {ρ : EV} {M : MH} : gsNil [] ρ M = some (ρ, M) := rfl
@[simp] theorem gsCons_c {g : TGX} {r : List PD → EV → MH → Option (EV × MH)} {d : PD} {ds : List PD} {ρ : EV} {M : MH} {Q : EV × MH → Prop} : wpD (gsCons g r (d :: ds) ρ M) Q ↔ wpD (g (.d d) ρ M) fun p => wpD (r ds p.1 p.2) Q := by
  show wpD (match g (.d d) ρ M with
    | some (ρ1, M1) => r ds ρ1 M1
    | none => none) Q ↔ _
  cases g (.d d) ρ M <;> exact Iff.rfl
@[simp] theorem atI_0 {α : Type} {x : α} {l : List α} : atI (x :: l) 0 = some x := atI_nat (j := 0) rfl
@[simp] theorem atI_1 {α : Type} {x y : α} {l : List α} : atI (x :: y :: l) 1 = some y := atI_nat (j := 1) rfl
@[simp] theorem atI_2 {α : Type} {x y z : α} {l : List α} : atI (x :: y :: z :: l) 2 = some z := atI_nat (j := 2) rfl
@[simp] theorem ixN_0 {n : Nat} : ixN (n + 1) 0 = some 0 := by
  unfold ixN
  rw [if_pos (by decide), if_pos (by omega)]; rfl
@[simp] theorem ixN_2 {n : Nat} : ixN (n + 3) 2 = some 2 := by
  unfold ixN
  rw [if_pos (by decide), if_pos (by omega)]; rfl
@[simp] theorem ixN_1 {n : Nat} : ixN (n + 2) 1 = some 1 := by
  unfold ixN
  rw [if_pos (by decide), if_pos (by omega)]; rfl
theorem atI_ok {α : Type} {l : List α} {k : Nat} {v : α} (h : l[k]? = some v) : atI l (k : Int) = some v := atI_nat h
end
section
variable {M : MH} {m m' m2 : MO} {l : MH}
@[simp] theorem get_m0 : (M ++ m :: l)[M.length]? = some m := by
  rw [List.getElem?_append_right (Nat.le_refl _)]; simp
@[simp] theorem get_m1 : (M ++ m :: m' :: l)[M.length + 1]? = some m' := by
  rw [List.getElem?_append_right (by omega)]
  have : M.length + 1 - M.length = 1 := by omega
  rw [this]; rfl
@[simp] theorem set_m0 : (M ++ m :: l).set M.length m2 = M ++ m2 :: l := by
  rw [List.set_append_right _ _ (Nat.le_refl _)]; simp
@[simp] theorem set_m1 : (M ++ m :: m' :: l).set (M.length + 1) m2 = M ++ m :: m2 :: l := by
  rw [List.set_append_right _ _ (by omega)]
  have : M.length + 1 - M.length = 1 := by omega
  rw [this]; rfl
@[simp] theorem take_m : (M ++ l).take M.length = M := by simp
@[simp] theorem take_m' : M.take M.length = M := by simp
end
section
variable {M : MH} {m : MO} {l : MH}
@[simp] theorem take_m1 : (M ++ m :: l).take (M.length + 1) = M ++ [m] := by
  rw [List.take_append, List.take_of_length_le (by omega)]
  simp
end
theorem neD_self {x : PD} {p : PyData} (h : toPy x = some p) (hd : p.depth ≤ 40) : neD x x = some (.bl false) := by
  unfold neD
  rw [h]
  dsimp only
  rw [if_pos (by simpa using hd), PySem.SeqAt.eqv_refl_plain p (toPy_plain h)]
  rfl
theorem toPys_ints : ∀ ns : List Int, toPys (ns.map .int) = some (ns.map .int)
  | [] => rfl
  | n :: ns => by
    rw [List.map_cons]
    unfold toPys
    rw [toPys_ints ns]
    rfl
theorem depth_map_int : ∀ ns : List Int, PyData.depthAll (ns.map .int) = 0
  | [] => by simp [PyData.depthAll]
  | n :: ns => by simp [PyData.depthAll, PyData.depth, depth_map_int ns]
theorem eq_of_wpo {β : Type} {r : Option (Rs β)} {a : β} {N : MH} (h : wpo r (fun v M' => v = a ∧ M' = N) noE) : r = some (.ok a N) := by
  obtain ⟨b, M, h1, rfl, rfl⟩ := wpo_get h
  exact h1
theorem intsOf_map : ∀ ns : List Int, intsOf (ns.map .int) = some ns
  | [] => rfl
  | n :: ns => by
    rw [List.map_cons]
    unfold intsOf
    rw [intsOf_map ns]
theorem prsOf_map : ∀ ps : List (Int × Int), prsOf (ps.map prD) = some ps
  | [] => rfl
  | p :: ps => by
    rw [List.map_cons]
    unfold prD
    unfold prsOf
    rw [show List.map (fun p : Int × Int => PD.tup [PD.int p.1, PD.int p.2]) ps = ps.map prD from rfl, prsOf_map ps]
/-- the least pair -/
theorem minPr_le : ∀ (ps : List (Int × Int)) (p : Int × Int), minPr p ps ∈ p :: ps ∧ ∀ q ∈ p :: ps, (minPr p ps).1 ≤ q.1 ∧ (q.1 = (minPr p ps).1 → (minPr p ps).2 ≤ q.2)
  | [], p => ⟨by simp [minPr], fun q h => by
    have : q = p := by simpa using h
    subst this
    exact ⟨Int.le_refl _, fun _ => Int.le_refl _⟩⟩
  | r :: ps, p => by
    have e : minPr p (r :: ps) = minPr (if ltPr r p then r else p) ps := rfl
    rw [e]
    obtain ⟨h1, h2⟩ := minPr_le ps (if ltPr r p then r else p)
    by_cases h : ltPr r p = true
    · rw [if_pos h] at h1 h2 ⊢
      have h := of_decide_eq_true h
      refine ⟨List.mem_cons_of_mem _ h1, fun q hq => ?_⟩
      rcases List.mem_cons.mp hq with rfl | hq
      · have := h2 r List.mem_cons_self
        constructor
        · omega
        · intro z
          have h3 := this.1
          have h4 := this.2
          rcases h with h | ⟨h, h'⟩
          · omega
          · have := h4 (by omega); omega
      · exact h2 q hq
    · rw [if_neg h] at h1 h2 ⊢
      have h : ¬ (r.1 < p.1 ∨ (r.1 = p.1 ∧ r.2 < p.2)) := fun z => h (decide_eq_true z)
      refine ⟨?_, fun q hq => ?_⟩
      · rcases List.mem_cons.mp h1 with z | z
        · rw [z]; exact List.mem_cons_self
        · exact List.mem_cons_of_mem _ (List.mem_cons_of_mem _ z)
      · rcases List.mem_cons.mp hq with rfl | hq
        · exact h2 _ List.mem_cons_self
        · rcases List.mem_cons.mp hq with rfl | hq
          · have := h2 p List.mem_cons_self
            constructor
            · omega
            · intro z
              have h3 := this.1
              have h4 := this.2
              have := h4 (by omega); omega
          · exact h2 q (List.mem_cons_of_mem _ hq)
end Mi
namespace Mi
open PySem PySem.Spec PyProof.Rows L2
end Mi
namespace Mi
open PySem PySem.Spec PyProof.Rows L2
def isSt (x : VL) (Q : Prop) : Prop := match x with
  | .d (.str _) => Q
  | _ => False
@[simp] theorem isSt_s {x : Str} {Q : Prop} : isSt (.d (.str x)) Q ↔ Q := Iff.rfl
def kIs (d : PD) (Q : Key → Prop) : Prop := match kOf d with
  | some k => Q k
  | none => False
@[simp] theorem kIs_i {i : Int} {Q : Key → Prop} : kIs (.int i) Q ↔ Q (.inl i) := Iff.rfl
@[simp] theorem kIs_s {i : Str} {Q : Key → Prop} : kIs (.str i) Q ↔ Q (.inr i) := Iff.rfl
def moDc (mo : MO) (Q : List Key → List PD → Prop) : Prop := match mo with
  | .dct ks ds => Q ks ds
  | _ => False
@[simp] theorem moDc_d {ks : List Key} {ds : List PD} {Q : List Key → List PD → Prop} : moDc (.dct ks ds) Q ↔ Q ks ds := Iff.rfl
@[simp] theorem moD_d {ks : List Key} {ds : List PD} : moD (.dct ks ds) = some (.dct ks ds) := rfl
def isR (x : VL) (Q : Nat → Prop) : Prop := match x with
  | .r k => Q k
  | _ => False
@[simp] theorem isR_r {k : Nat} {Q : Nat → Prop} : isR (.r k) Q ↔ Q k := Iff.rfl
section
variable {Q : VL → MH → Prop} {E : EW} {M : MH} {ρ : EV}
@[simp] theorem wpo_no : wpo (eNo ρ M) Q E ↔ False := Iff.rfl
@[simp] theorem wpo_st1 {f : PD → PD → Option PD} {g h : EX} : wpo (eSt1 f g h ρ M) Q E ↔ wpo (g ρ M) (fun x M1 => isSt x (wpo (h ρ M1) (fun y M2 => wpo (op2 f x y M2) Q E) E)) E := by
  unfold eSt1; rw [wpo_bnd]
  constructor <;> intro hh <;> refine wpo_mono hh fun x M1 hh => ?_
  · split at hh
    · rename_i hx
      unfold isS at hx
      split at hx
      · exact wpo_bnd.mp hh
      · cases hx
    · exact hh.elim
  · unfold isSt at hh
    split at hh
    · rw [if_pos (show isS _ = true from rfl)]; exact wpo_bnd.mpr hh
    · exact hh.elim
@[simp] theorem wpo_slS {g : EX} {lo hi : OX} : wpo (eSlS g lo hi ρ M) Q E ↔ wpo (g ρ M) (fun x M1 => wpo (lo ρ M1) (fun l M2 => wpo (hi ρ M2) (fun h M3 => wpD (dv M3 x) fun d => wpD (slSD d l h) fun c => Q (.d c) M3) E) E) E := by
  unfold eSlS; rw [wpo_bnd]
  constructor <;> intro h <;> refine wpo_mono h fun x M1 h => ?_
  · rw [wpo_bnd] at h
    refine wpo_mono h fun l M2 h => ?_
    rw [wpo_bnd] at h
    refine wpo_mono h fun u M3 h => ?_
    cases h1 : dv M3 x with
    | none => rw [h1] at h; exact h.elim
    | some d =>
      rw [h1] at h
      rw [wpD_some]
      cases h2 : slSD d l u with
      | none => simp only [h2] at h; exact h.elim
      | some c => simp only [h2] at h; exact h
  · rw [wpo_bnd]
    refine wpo_mono h fun l M2 h => ?_
    rw [wpo_bnd]
    refine wpo_mono h fun u M3 h => ?_
    cases h1 : dv M3 x with
    | none => rw [h1] at h; exact h.elim
    | some d =>
      rw [h1, wpD_some] at h
      dsimp only
      cases h2 : slSD d l u with
      | none => rw [h2] at h; exact h.elim
      | some c => rw [h2] at h; exact h
@[simp] theorem wpo_rep {g h : EX} : wpo (eRep g h ρ M) Q E ↔ wpo (g ρ M) (fun x M1 => wpo (h ρ M1) (fun y M2 => wpo (mkRep [x, y] M2) Q E) E) E := by
  unfold eRep; rw [wpo_bnd]
  constructor <;> intro h <;> refine wpo_mono h fun x M1 h => ?_
  · exact wpo_bnd.mp h
  · exact wpo_bnd.mpr h
@[simp] theorem wpo_cat {g h : EX} : wpo (eCat g h ρ M) Q E ↔ wpo (g ρ M) (fun x M1 => wpo (h ρ M1) (fun y M2 => wpo (mkCat [x, y] M2) Q E) E) E := by
  unfold eCat; rw [wpo_bnd]
  constructor <;> intro h <;> refine wpo_mono h fun x M1 h => ?_
  · exact wpo_bnd.mp h
  · exact wpo_bnd.mpr h
@[simp] theorem wpo_mutC {mo : MO} : wpo (eMutC mo ρ M) Q E ↔ Q (.r M.length) (M ++ [mo]) := Iff.rfl
@[simp] theorem isDc_r {k : Nat} : isDc M (.r k) = true ↔ wpD M[k]? fun mo => moDc mo fun _ _ => True := by
  unfold isDc
  rw [dv_eq]
  cases M[k]? with
  | none => simp
  | some mo => cases mo <;> simp [moD, moDc]
@[simp] theorem isDc_d {ks : List Key} {ds : List PD} : isDc M (.d (.dct ks ds)) = true ↔ True := ⟨fun _ => trivial, fun _ => rfl⟩
@[simp] theorem wpo_getK {g h : EX} : wpo (eGetK g h ρ M) Q E ↔ wpo (g ρ M) (fun x M1 => isDc M1 x = true ∧ wpo (h ρ M1) (fun y M2 => wpo (op2 getKD x y M2) Q E) E) E := by
  unfold eGetK eMtD; rw [wpo_bnd]
  constructor <;> intro h <;> refine wpo_mono h fun x M1 h => ?_
  · by_cases h1 : isDc M1 x = true
    · rw [if_pos h1, wpo_bnd] at h; exact ⟨h1, h⟩
    · rw [if_neg h1] at h; exact h.elim
  · rw [if_pos h.1, wpo_bnd]; exact h.2
@[simp] theorem wpo_dc {vs : List Nat} {bd : PD → EV → Option EV} {it : IX} {ac : AcX} : wpo (eDc vs bd it ac ρ M) Q E ↔ wpo (it ρ M) (fun ds M1 => wpD (dcW bd ac ds (wipeE ρ vs) [] [] M1) fun p => Q (.r p.2.2.length) (p.2.2 ++ [.dct p.1 p.2.1])) E := by
  unfold eDc; rw [wpo_bnd]
  constructor <;> intro h <;> refine wpo_mono h fun ds M1 h => ?_
  · cases h1 : dcW bd ac ds (wipeE ρ vs) [] [] M1 with
    | none => rw [h1] at h; exact h.elim
    | some z => obtain ⟨a, b, c⟩ := z; rw [h1] at h; exact h
  · cases h1 : dcW bd ac ds (wipeE ρ vs) [] [] M1 with
    | none => rw [h1] at h; exact h.elim
    | some z => obtain ⟨a, b, c⟩ := z; rw [h1] at h; exact h
@[simp] theorem wpo_lensc {vs : List Nat} {bd : PD → EV → Option EV} {it : IX} {e : EX} : wpo (eLenSc vs bd it e ρ M) Q E ↔ wpo (it ρ M) (fun ds M1 => wpD (lcL bd tYs e ds (wipeE ρ vs) M1) fun p => wpD (intsOf p.1) fun ns => ns.length + 1 < scanBound ∧ Q (.d (.int (cntU [] ns 0))) p.2) E := by
  unfold eLenSc; rw [wpo_bnd]
  constructor <;> intro h <;> refine wpo_mono h fun ds M1 h => ?_
  · cases h1 : lcL bd tYs e ds (wipeE ρ vs) M1 with
    | none => rw [h1] at h; exact h.elim
    | some z =>
      obtain ⟨ys, M2⟩ := z
      rw [h1] at h
      dsimp only at h
      rw [wpD_some]
      cases h2 : intsOf ys with
      | none => rw [h2] at h; exact h.elim
      | some ns =>
        rw [h2] at h
        dsimp only at h
        rw [wpD_some]
        split at h
        · exact ⟨by assumption, h⟩
        · exact h.elim
  · cases h1 : lcL bd tYs e ds (wipeE ρ vs) M1 with
    | none => rw [h1] at h; exact h.elim
    | some z =>
      obtain ⟨ys, M2⟩ := z
      rw [h1, wpD_some] at h
      dsimp only at h ⊢
      cases h2 : intsOf ys with
      | none => rw [h2] at h; exact h.elim
      | some ns =>
        rw [h2, wpD_some] at h
        dsimp only
        rw [if_pos h.1]; exact h.2
end
section
variable {M : MH} {ρ : EV} {E : EW} {Q : List PD → MH → Prop}
@[simp] theorem wpo_keyM {g : EX} : wpo (iKeyM g ρ M) Q E ↔ wpo (g ρ M) (fun v M1 => isR v fun k => wpD M1[k]? fun mo => moDc mo fun ks _ => Q (ks.map kD) (M1.set k .gone)) E := by
  unfold iKeyM; rw [wpo_bnd]
  constructor <;> intro h <;> refine wpo_mono h fun v M1 h => ?_
  · cases v with
    | d _ => exact h.elim
    | r k =>
      dsimp only at h
      rw [isR_r]
      cases h1 : M1[k]? with
      | none => rw [h1] at h; exact h.elim
      | some mo =>
        rw [h1] at h
        cases mo with
        | dct ks ds => exact h
        | _ => exact h.elim
  · cases v with
    | d _ => exact h.elim
    | r k =>
      dsimp only
      rw [isR_r] at h
      cases h1 : M1[k]? with
      | none => rw [h1] at h; exact h.elim
      | some mo =>
        rw [h1, wpD_some] at h
        cases mo with
        | dct ks ds => exact h
        | _ => exact h.elim
end
def moLs (mo : MO) (Q : List PD → Prop) : Prop := match mo with
  | .lst ds => Q ds
  | _ => False
@[simp] theorem moLs_l {ds : List PD} {Q : List PD → Prop} : moLs (.lst ds) Q ↔ Q ds := Iff.rfl
section
variable {M : MH} {ρ : EV} {E : EW} {Q : List PD → MH → Prop}
@[simp] theorem wpo_seqM {g : EX} : wpo (iSeqM g ρ M) Q E ↔ wpo (g ρ M) (fun v M1 => isR v fun k => wpD M1[k]? fun mo => moLs mo fun ds => Q ds (M1.set k .gone)) E := by
  unfold iSeqM; rw [wpo_bnd]
  constructor <;> intro h <;> refine wpo_mono h fun v M1 h => ?_
  · cases v with
    | d _ => exact h.elim
    | r k =>
      dsimp only at h
      rw [isR_r]
      cases h1 : M1[k]? with
      | none => rw [h1] at h; exact h.elim
      | some mo =>
        rw [h1] at h
        cases mo with
        | lst ds => exact h
        | _ => exact h.elim
  · cases v with
    | d _ => exact h.elim
    | r k =>
      dsimp only
      rw [isR_r] at h
      cases h1 : M1[k]? with
      | none => rw [h1] at h; exact h.elim
      | some mo =>
        rw [h1, wpD_some] at h
        cases mo with
        | lst ds => exact h
        | _ => exact h.elim
end
section
variable {M : MH} {ρ : EV} {Q : Fl → EV → MH → Prop}
@[simp] theorem wps_put {go gi gv : EX} : wps (sPut go gi gv ρ M) Q ↔ wpo (gv ρ M) (fun v M1 => wpo (go ρ M1) (fun o M2 => wpo (gi ρ M2) (fun i M3 => wpD (putX o i v M3) fun M4 => Q .nx ρ M4) (fun c xs M1 => Q (.ex c xs) ρ M1)) (fun c xs M1 => Q (.ex c xs) ρ M1)) (fun c xs M1 => Q (.ex c xs) ρ M1) := by
  unfold sPut; rw [wps_bnd]
  constructor <;> intro h <;> refine wpo_mono h fun v M1 h => ?_
  · rw [wps_bnd] at h
    refine wpo_mono h fun o M2 h => ?_
    rw [wps_bnd] at h
    refine wpo_mono h fun i M3 h => ?_
    cases h1 : putX o i v M3 with
    | none => rw [h1] at h; exact h.elim
    | some M4 => rw [h1] at h; exact h
  · rw [wps_bnd]
    refine wpo_mono h fun o M2 h => ?_
    rw [wps_bnd]
    refine wpo_mono h fun i M3 h => ?_
    cases h1 : putX o i v M3 with
    | none => rw [h1] at h; exact h.elim
    | some M4 => rw [h1] at h; exact h
@[simp] theorem putX_w {k : Nat} {x y : PD} {P : MH → Prop} : wpD (putX (.r k) (.d x) (.d y) M) P ↔ wpD M[k]? fun mo => moDc mo fun ks ds => kIs x fun z => ks.length < sizeLine ∧ P (M.set k (.dct (putKs ks z) (putDs ks ds z y))) := by
  unfold putX kIs
  dsimp only
  cases M[k]? with
  | none => simp
  | some mo =>
    cases mo with
    | dct ks ds =>
      cases h2 : kOf x with
      | none => simp
      | some z =>
        dsimp only
        by_cases h3 : ks.length < sizeLine <;> simp [h3]
    | _ => simp [moDc]
end
section
variable {Q : PD → Prop} {i j : Int} {x y : Str} {a : List PD} {ks : List Key} {ds : List PD} {d : PD}
@[simp] theorem partD_ss : wpD (partD (.str x) (.str y)) Q ↔ ((y.length == 0) = false ∧ SzOk x.length) ∧ Q (.tup [.str (Txt.partition x y).1, .str (Txt.partition x y).2.1, .str (Txt.partition x y).2.2]) := by
  unfold partD SzOk
  dsimp only
  split
  · rename_i h; exact ⟨fun q => ⟨h, q⟩, fun q => q.2⟩
  · rename_i h; exact ⟨fun q => q.elim, fun q => h q.1⟩
@[simp] theorem splitD_ss : wpD (splitD (.str x) (.str y)) Q ↔ ((y.length == 0) = false ∧ SzOk (x.length + 2)) ∧ Q (.lst ((Txt.split x y).map .str)) := by
  unfold splitD SzOk
  dsimp only
  split
  · rename_i h; exact ⟨fun q => ⟨h, q⟩, fun q => q.2⟩
  · rename_i h; exact ⟨fun q => q.elim, fun q => h q.1⟩
@[simp] theorem inKD_d : wpD (inKD d (.dct ks ds)) Q ↔ kIs d fun k => Q (.bl (memK k ks)) := by
  unfold inKD kIs
  dsimp only
  cases kOf d <;> simp
@[simp] theorem notinKD_d : wpD (notinKD d (.dct ks ds)) Q ↔ kIs d fun k => Q (.bl (!memK k ks)) := by
  unfold notinKD kIs
  dsimp only
  cases kOf d <;> simp
@[simp] theorem idxKD_d : wpD (idxKD (.dct ks ds) d) Q ↔ kIs d fun k => wpD (valD ks ds k) Q := by
  unfold idxKD kIs
  dsimp only
  cases kOf d <;> simp
@[simp] theorem getKD_d : wpD (getKD (.dct ks ds) d) Q ↔ kIs d fun k => Q ((valD ks ds k).getD .non) := by
  unfold getKD kIs
  dsimp only
  cases kOf d <;> simp
@[simp] theorem lenKD_d : lenKD [.dct ks ds] = some (.int ks.length) := rfl
@[simp] theorem tupleD_l : tupleD [.lst a] = some (.tup a) := rfl
@[simp] theorem tupleD_t : tupleD [.tup a] = some (.tup a) := rfl
@[simp] theorem listD_l : listD [.lst a] = some (.lst a) := rfl
@[simp] theorem listD_t : listD [.tup a] = some (.lst a) := rfl
end
end Mi
namespace Mi
open PySem PySem.Spec PyProof.Rows L2
/-- a display with these keys -/
def eDspL (ks : List Key) (gs : AX) : EX := fun ρ M => bnd (gs ρ M) fun xs M1 => if xs.length = ks.length then some (.ok (.r M1.length) (M1 ++ [.dcr ks xs])) else none
def valR : List Key → List VL → Key → Option VL
  | k :: ks, v :: vs, z => if k = z then some v else valR ks vs z
  | _, _, _ => none
def idxR (x y : VL) (M : MH) : Option (Rs VL) := match x, y with
  | .r k, .d d => (match M[k]?, kOf d with
    | some (.dcr ks vs), some z => (match valR ks vs z with
      | some v => some (.ok v M)
      | none => none)
    | _, _ => none)
  | _, _ => none
def eIdxR (g h : EX) : EX := fun ρ M => bnd (g ρ M) fun x M1 => bnd (h ρ M1) fun y M2 => idxR x y M2
/-- lists given up, one by one -/
def frzL : List VL → MH → Option (List PD × MH)
  | [], M => some ([], M)
  | .d x :: vs, M => (match frzL vs M with
    | some (ds, M1) => some (x :: ds, M1)
    | none => none)
  | .r j :: vs, M => (match M[j]? with
    | some (.lst es) => (match frzL vs (M.set j .gone) with
      | some (ds, M1) => some (.lst es :: ds, M1)
      | none => none)
    | _ => none)
def frzR (x : VL) (M : MH) : Option (Rs VL) := match x with
  | .r k => (match M[k]? with
    | some (.dcr ks vs) => (match frzL vs M with
      | some (ds, M1) => some (.ok (.d (.dct ks ds)) (M1.set k .gone))
      | none => none)
    | _ => none)
  | _ => none
def eFrzR (g : EX) : EX := fun ρ M => bnd (g ρ M) fun x M1 => frzR x M1
section
variable {K : PySem.W.Frag} {T : Tb} {F H : Hp} {α : List Addr} {M : MH}
theorem valR_rel : ∀ {kvs : List (Key × V)} {gs : List VL} {k : Key} {x : VL}, RepVs K T F α (kvs.map (·.2)) gs → valR (kvs.map (·.1)) gs k = some x → ∃ v, valV kvs k = some v ∧ RepV K T F α v x
  | [], _, k, x, .nil, e => by cases e
  | (q, v) :: kvs, _, k, x, .cons (d := d) (ds := ds) r t, e => by
    have e : (if q = k then some d else valR (kvs.map (·.1)) ds k) = some x := e
    by_cases z : q = k
    · rw [if_pos z] at e
      cases e
      exact ⟨v, valV_pos z, r⟩
    · rw [if_neg z] at e
      obtain ⟨u, e1, e2⟩ := valR_rel t e
      exact ⟨u, (valV_neg z).trans e1, e2⟩
/-- an object that nobody tells is written -/
theorem HR.wside {p : Addr} {o u : HO} (R : HR K T H M F α) (h : H p = some u) (nA : p ∉ α) (nF : F p = none) (ht : ∀ ps, u ≠ .tbl ps) : HR K T (upd H p o) M F α := by
  have ne : ∀ a ∈ α, a ≠ p := fun a m q => nA (q ▸ m)
  refine ⟨fun a v e => ?_, R.len, R.nd, fun a m => ?_, R.sep, fun k mo a e1 e2 => ?_, R.old, fun q hq => tab_up h ht (R.tab q hq)⟩
  · have q : a ≠ p := fun q => by rw [q, nF] at e; cases e
    exact kept_upd (R.fr a v e) q
  · rw [upd_ne (ne a m)]; exact R.al a m
  · have qa := ne a (List.mem_of_getElem? e2)
    have h0 := R.obj k mo a e1 e2
    cases mo with
    | lst ds => obtain ⟨xs, h1, h2⟩ := h0; exact ⟨xs, (upd_ne qa).trans h1, h2⟩
    | dct ks ds => obtain ⟨kvs, h1, h2, h3⟩ := h0; exact ⟨kvs, (upd_ne qa).trans h1, h2, h3⟩
    | ins c gs => obtain ⟨dx, fs, h1, h2⟩ := h0; exact ⟨dx, fs, (upd_ne qa).trans h1, h2⟩
    | gone => trivial
    | dcr ks gs => obtain ⟨kvs, h1, h2, h3⟩ := h0; exact ⟨kvs, (upd_ne qa).trans h1, h2, h3⟩
    | dtp ks ds => obtain ⟨kvs, h1, h2, h3⟩ := h0; exact ⟨kvs, (upd_ne qa).trans h1, h2, h3⟩
    | tpm ks => exact (upd_ne qa).trans h0
theorem upd_self {a : Addr} {o : HO} (h : H a = some o) : upd H a o = H := by
  funext b
  by_cases q : b = a
  · subst q
    rw [upd_same, h]
  · rw [upd_ne q]
/-- the lists of a dict are given up -/
theorem frz_lists : ∀ {vs : List V} {gs : List VL} {M M1 : MH} {F : Hp} {ds : List PD}, HR K T H M F α → RepVs K T F α vs gs → frzL gs M = some (ds, M1) → ∃ F1, HR K T H M1 F1 α ∧ Same F F1 ∧ Step H F α H F1 α ∧ Reps K T F1 vs ds ∧ ∀ k : Nat, M[k]? ≠ M1[k]? → M1[k]? = some MO.gone ∧ ∃ es, M[k]? = some (MO.lst es)
  | _, _, M, _, F, _, R, .nil, e => by
    cases e
    exact ⟨F, R, Same.refl _, Step.refl, .nil, fun k h => (h rfl).elim⟩
  | _, _, M, _, F, _, R, .cons (d := .d x) (ds := gs) r t, e => by
    unfold frzL at e
    cases h : frzL gs M with
    | none => rw [h] at e; cases e
    | some p =>
      obtain ⟨ds, M1⟩ := p
      rw [h] at e
      cases e
      obtain ⟨F1, R1, sF, s1, rs, k1⟩ := frz_lists R t h
      exact ⟨F1, R1, sF, s1, .cons (Rep.mono sF r) rs, k1⟩
  | _, _, M, _, F, _, R, .cons (d := .r j) (ds := gs) r t, e => by
    unfold frzL at e
    cases hj : M[j]? with
    | none => rw [hj] at e; cases e
    | some mo =>
      rw [hj] at e
      cases mo with
      | lst es =>
        dsimp only at e
        cases h : frzL gs (M.set j .gone) with
        | none => rw [h] at e; cases e
        | some p =>
          obtain ⟨ds, M2⟩ := p
          rw [h] at e
          have e1 : M2 = _ := congrArg Prod.snd (Option.some.inj e)
          have e2 : PD.lst es :: ds = _ := congrArg Prod.fst (Option.some.inj e)
          subst e1 e2
          obtain ⟨a, ea, rfl⟩ := r
          obtain ⟨xs, hx, rx⟩ := R.obj j _ a hj ea
          have nF := R.sep j a ea (by rw [hj]; simp)
          obtain ⟨R0, s0⟩ := R.still (u := .lst xs) ea (by rw [hj]; simp)
          rw [upd_self hx] at R0 s0
          have sF0 : Same F (upd F a (.lst xs)) := same_new nF
          obtain ⟨F1, R1, sF, s1, rs, k1⟩ := frz_lists R0 (t.same sF0) h
          refine ⟨F1, R1, sF0.trans sF, s0.trans s1, .cons (.lst (sF _ _ upd_same) (rx.mono (sF0.trans sF))) rs, fun k hk => ?_⟩
          by_cases q : k = j
          · subst q
            refine ⟨?_, es, hj⟩
            have hl : k < M.length := (List.getElem?_eq_some_iff.mp hj).1
            have g0 : (M.set k .gone)[k]? = some MO.gone := List.getElem?_set_self hl
            by_cases z : (M.set k MO.gone)[k]? = M2[k]?
            · rw [← z, g0]
            · exact (k1 k z).1
          · have g0 : (M.set j .gone)[k]? = M[k]? := List.getElem?_set_ne (Ne.symm q)
            rw [← g0] at hk ⊢
            exact k1 k hk
      | _ => cases e
end
section
variable {X : Cx} {T : Tb} {W : WX} {g h : EX} {gs : AX} {a b v : Expr} {pos : Pos}
/-- the pairs of a display under constant texts -/
structure PPD (X : Cx) (T : Tb) (W : WX) (pos : Pos) (keys : List (Option Expr)) (values : List Expr) (ks : List Key) (gs : AX) : Prop where
  run : ∃ trs, PPs X pos keys values trs ∧ ∀ (σ : L2.St) (H : Hp) (Q : List (V × V) → Hp → Prop), tA X.K T W gs σ H (fun vs H1 => Q ((ks.map kV).zip vs) H1) → tPairs trs σ H Q
  all : keys.all (·.isSome) = true
  len : keys.length = values.length
  len2 : ks.length = keys.length
theorem ppd_nil : PPD X T W pos [] [] [] aNil := ⟨⟨[], pps_nil, fun σ H Q hh => by
  obtain ⟨ρ, M, F, α, L, R, hh⟩ := rd_to hh
  have := at_ok (v := ([] : List V)) R hh .nil
  exact this⟩, rfl, rfl, rfl⟩
theorem ppd_cons {x : Str} {j} {p1 : Pos} {keys : List (Option Expr)} {values : List Expr} {ks : List Key} (hv : PE X v (tE X.K T W g)) (hr : PPD X T W pos keys values ks gs) :
    PPD X T W pos (some (.Constant (.str x) j p1) :: keys) (v :: values) (.inr x :: ks) (aCons g gs) := by
  obtain ⟨⟨trs, pp, hp⟩, h1, h2, h3⟩ := hr
  refine ⟨⟨_, pps_cons pe_str hv pp, fun σ H Q hh => ?_⟩, by simpa using h1, by simp [h2], by simp [h3]⟩
  obtain ⟨ρ, M, F, α, L, R, hh⟩ := rd_to hh
  show tE X.K T W g σ H fun y H2 => tPairs trs σ H2 fun ps H3 => Q ((.str x, y) :: ps) H3
  refine rd_of L R (at_bind hh fun u M1 w H1 F1 α1 s1 R1 r1 q1 => ?_)
  refine hp σ H1 _ (rd_of (L.mono s1) R1 (at_bind q1 fun us M2 ws H2 F2 α2 s2 R2 r2 q2 => ?_))
  exact at_ok (v := w :: ws) R2 q2 (.cons (r1.mono s2) r2)
theorem zip_keys : ∀ {ks : List Key} {vs : List V}, (ks.map kV).zip vs = (ks.zip vs).map fun kv => (kV kv.1, kv.2)
  | [], _ => rfl
  | _ :: _, [] => rfl
  | k :: ks, v :: vs => by
    show (kV k, v) :: (ks.map kV).zip vs = _
    rw [zip_keys (ks := ks)]
    rfl
theorem de_dspl {keys : List (Option Expr)} {values : List Expr} {ks : List Key} (hp : PPD X T W pos keys values ks gs) (h0 : keys ≠ []) (h15 : keys.length ≤ 15) (nd : ks.Nodup) : PE X (.Dict keys values pos) (tE X.K T W (eDspL ks gs)) := by
  obtain ⟨⟨trs, pp, hq⟩, h1, h2, h3⟩ := hp
  refine peImp (pe_disp pp h1 h2 h0 h15) fun σ H Q hh => ?_
  obtain ⟨ρ, M, F, α, L, R, q, e, po⟩ := rd_to hh
  intro p hp
  have R0 := R.side (o := .dK []) hp
  have s0 : Step H F α (upd H p (.dK [])) F α := step_side hp
  unfold eDspL at e
  refine hq σ _ _ (rd_of (L.mono s0) R0 ?_)
  cases hg : gs ρ M with
  | none => rw [hg] at e; cases e
  | some r =>
    rw [hg] at e
    cases r with
    | ex c ys M' =>
      cases e
      exact ⟨_, rfl, fun dd H' F' α' R' s' x => po dd H' F' α' R' (s0.trans s') x⟩
    | ok xs M2 =>
      refine ⟨_, rfl, fun vs H2 F2 α2 R2 s2 r2 => ?_⟩
      have e : (if xs.length = ks.length then some (Rs.ok (VL.r M2.length) (M2 ++ [MO.dcr ks xs])) else none) = some q := e
      by_cases hl : xs.length = ks.length
      · rw [if_pos hl] at e
        obtain ⟨k1, f1, n1⟩ := s2.keep p (.dK []) upd_same (R.freeA hp) (R.freeF hp)
        have k1 : H2 p = some (.dK []) := k1
        have lv : vs.length = xs.length := r2.length
        have m1 : (ks.zip vs).map (·.1) = ks := List.map_fst_zip (by omega)
        have m2 : (ks.zip vs).map (·.2) = vs := List.map_snd_zip (by omega)
        have em : mergeK [] (ks.zip vs) = ks.zip vs := by
          have := merge_nodup (ks.zip vs) [] (by rw [m1]; simpa using nd)
          simpa using this
        refine ⟨k1, ks.zip vs, zip_keys, by rw [List.length_zip]; omega, ?_⟩
        rw [em]
        have R3 := R2.wside (o := .dK (ks.zip vs)) k1 n1 f1 (fun ps z => by cases z)
        have R4 : HR X.K T (upd H2 p (.dK (ks.zip vs))) (M2 ++ [.dcr ks xs]) F2 (α2 ++ [p]) := R3.adopt (by rw [upd_same]; simp) n1 f1 ⟨ks.zip vs, upd_same, m1, by rw [m2]; exact r2.more⟩ (fun g hg j ej => by
          subst ej
          have : ∀ {vs : List V} {xs : List VL}, RepVs X.K T F2 α2 vs xs → VL.r j ∈ xs → j < α2.length := fun {vs xs} h => by
            induction h with
            | nil => exact fun z => by cases z
            | cons r t ih =>
              intro hm
              rcases List.mem_cons.mp hm with z | z
              · subst z
                obtain ⟨a, ea, _⟩ := r
                exact (List.getElem?_eq_some_iff.mp ea).1
              · exact ih z
          have := this r2 hg
          rw [R2.len] at this
          exact this) (fun ps z => by rw [upd_same] at z; cases z)
        have st := s0.trans s2
        have s9 : Step H F α (upd H2 p (.dK (ks.zip vs))) F2 (α2 ++ [p]) := by
          refine ⟨st.ext, ?_, fun a o ha na fa => ?_⟩
          · obtain ⟨β, rfl⟩ := st.pre
            exact ⟨β ++ [p], by rw [List.append_assoc]⟩
          · have qa : a ≠ p := fun z => by rw [z, hp] at ha; cases ha
            obtain ⟨g1, g2, g3⟩ := st.keep a o ha na fa
            exact ⟨g1.up qa, g2, by simp [g3, qa]⟩
        refine at_okS (W := W) (σ := σ) (v := V.ref p) s9 R4 ⟨q, e, po⟩ ⟨p, ?_, rfl⟩
        rw [List.getElem?_append_right (by rw [R2.len]; exact Nat.le_refl _), R2.len]
        simp
      · rw [if_neg hl] at e; cases e
theorem de_idxR (hu : X.A.units + 64 < cLine) (ha : PE X a (tE X.K T W g)) (hb : PE X b (tE X.K T W h)) (hs : NoSl b := by exact fun _ _ => rfl) : PE X (.Subscript a b pos) (tE X.K T W (eIdxR g h)) := by
  refine peImp (pe_dget (by omega) ha hb hs) fun σ H Q hh => ?_
  obtain ⟨ρ, M, F, α, L, R, hh⟩ := rd_to hh
  refine rd_of L R (at_bind hh fun x M1 v H1 F1 α1 s1 R1 r1 h1 => ?_)
  refine rd_of (L.mono s1) R1 (at_bind h1 fun y M2 w H2 F2 α2 s2 R2 r2 h2 => ?_)
  have r1 := r1.mono s2
  cases x with
  | d x => obtain ⟨q, e, _⟩ := h2; cases y <;> cases e
  | r k =>
    cases y with
    | r j => obtain ⟨q, e, _⟩ := h2; cases e
    | d d =>
      unfold idxR at h2
      dsimp only at h2
      cases hm : M2[k]? with
      | none => rw [hm] at h2; obtain ⟨q, e, _⟩ := h2; cases e
      | some mo =>
        cases hk : kOf d with
        | none => rw [hm, hk] at h2; obtain ⟨q, e, _⟩ := h2; cases mo <;> cases e
        | some z =>
          rw [hm, hk] at h2
          cases mo with
          | dcr ks gs =>
            dsimp only at h2
            cases hv : valR ks gs z with
            | none => rw [hv] at h2; obtain ⟨q, e, _⟩ := h2; cases e
            | some u =>
              rw [hv] at h2
              obtain ⟨p, ep, rfl⟩ := r1
              obtain ⟨kvs, g1, g2, g3⟩ := R2.obj k _ p hm ep
              subst g2
              obtain ⟨v', e1, e2⟩ := valR_rel g3 hv
              have ek : w = kV z := top_key (X := X) (T := T) (F := F2) (H := H2) (.inl r2) hk
              subst ek
              exact ⟨p, v', rfl, .inl ⟨kvs, z, .inl g1, rfl, e1.symm⟩, at_ok R2 h2 e2⟩
          | _ => obtain ⟨q, e, _⟩ := h2; cases e
/-- a dict of lists that is wanted no more as such: from now on all stands still -/
theorem de_frzR (ha : PE X a (tE X.K T W g)) : PE X a (tE X.K T W (eFrzR g)) := by
  refine peImp ha fun σ H Q hh => ?_
  obtain ⟨ρ, M, F, α, L, R, hh⟩ := rd_to hh
  refine rd_of L R (at_bind hh fun x M1 v H1 F1 α1 s1 R1 r1 h1 => ?_)
  cases x with
  | d x => obtain ⟨q, e, _⟩ := h1; cases e
  | r k =>
    unfold frzR at h1
    dsimp only at h1
    cases hm : M1[k]? with
    | none => rw [hm] at h1; obtain ⟨q, e, _⟩ := h1; cases e
    | some mo =>
      rw [hm] at h1
      cases mo with
      | dcr ks gs =>
        dsimp only at h1
        cases hf : frzL gs M1 with
        | none => rw [hf] at h1; obtain ⟨q, e, _⟩ := h1; cases e
        | some pr =>
          obtain ⟨ds, M2⟩ := pr
          rw [hf] at h1
          obtain ⟨p, ep, rfl⟩ := r1
          obtain ⟨kvs, g1, g2, g3⟩ := R1.obj k _ p hm ep
          subst g2
          obtain ⟨F2, R2, sF, s2, rs, k2⟩ := frz_lists R1 g3 hf
          have hm2 : M2[k]? = some (.dcr (kvs.map (·.1)) gs) := by
            by_cases z : M1[k]? = M2[k]?
            · rw [← z, hm]
            · obtain ⟨_, es, z⟩ := k2 k z
              rw [hm] at z
              cases z
          have nF := R2.sep k p ep (by rw [hm2]; simp)
          obtain ⟨R3, s3⟩ := R2.still (u := .dK kvs) ep (by rw [hm2]; simp)
          rw [upd_self g1] at R3 s3
          exact at_okS (W := W) (σ := σ) (v := V.ref p) (s2.trans s3) R3 h1 (Rep.dct (.inl upd_same) rfl rfl (rs.mono (same_new nF)))
      | _ => obtain ⟨q, e, _⟩ := h1; cases e
end
section
variable {ρ : EV} {M : MH} {Q : VL → MH → Prop} {E : EW} {g h : EX} {gs : AX}
@[simp] theorem wpo_dspl {ks : List Key} : wpo (eDspL ks gs ρ M) Q E ↔ wpo (gs ρ M) (fun xs M1 => xs.length = ks.length ∧ Q (.r M1.length) (M1 ++ [.dcr ks xs])) E := by
  unfold eDspL
  rw [wpo_bnd]
  refine Iff.of_eq (congrArg (fun z => wpo _ z _) (funext fun xs => funext fun M1 => ?_))
  by_cases hl : xs.length = ks.length <;> simp [hl]
@[simp] theorem wpo_idxR : wpo (eIdxR g h ρ M) Q E ↔ wpo (g ρ M) (fun x M1 => wpo (h ρ M1) (fun y M2 => wpo (idxR x y M2) Q E) E) E := by
  unfold eIdxR
  rw [wpo_bnd]
  refine Iff.of_eq (congrArg (fun z => wpo _ z _) (funext fun xs => funext fun M1 => ?_))
  rw [wpo_bnd]
@[simp] theorem wpo_frzR : wpo (eFrzR g ρ M) Q E ↔ wpo (g ρ M) (fun x M1 => wpo (frzR x M1) Q E) E := by
  unfold eFrzR
  rw [wpo_bnd]
theorem idxR_at {k : Nat} {ks : List Key} {vs : List VL} {x : Str} {v : VL} (hm : M[k]? = some (.dcr ks vs)) (hv : valR ks vs (.inr x) = some v) : idxR (.r k) (.d (.str x)) M = some (.ok v M) := by
  unfold idxR
  dsimp only
  rw [hm, show kOf (.str x) = some (.inr x) from rfl]
  dsimp only
  rw [hv]
end
end Mi
namespace Mi
open PySem PySem.Spec PyProof.Rows L2
end Mi
namespace Mi
open PySem PySem.Spec PyProof.Rows L2
section
variable {K : PySem.W.Frag} {T : Tb} {F F' H H' : Hp} {α α' : List Addr} {M M' : MH}
def flatD : PD → Bool
  | .int _ => true
  | .tup xs => (intsOf xs).isSome
  | _ => false
theorem mok_ext (e : Ext H H') {a : Addr} {mo : MO} (h : MOk K T F α H a mo) : MOk K T F α H' a mo := by
  cases mo with
  | lst ds => obtain ⟨xs, h1, h2⟩ := h; exact ⟨xs, e _ _ h1, h2⟩
  | dct ks ds => obtain ⟨kvs, h1, h2, h3⟩ := h; exact ⟨kvs, e _ _ h1, h2, h3⟩
  | ins c gs => obtain ⟨dx, fs, h1, h2⟩ := h; exact ⟨dx, fs, e _ _ h1, h2⟩
  | dcr ks gs => obtain ⟨kvs, h1, h2, h3⟩ := h; exact ⟨kvs, e _ _ h1, h2, h3⟩
  | dtp ks ds => obtain ⟨kvs, h1, h2, h3⟩ := h; exact ⟨kvs, e _ _ h1, h2, h3⟩
  | tpm ks => exact e _ _ h
  | gone => trivial
theorem TabF.ext {q : Addr × Str} (e : Ext H H') (t : TabF H F q) : TabF H' F q := by
  obtain ⟨ps, t0, t1⟩ := t
  exact ⟨ps, e _ _ t0, t1⟩
theorem HR.ext (R : HR K T H M F α) (e : Ext H H') : HR K T H' M F α := by
  refine ⟨fun a o h => ?_, R.len, R.nd, fun a m z => ?_, R.sep, fun k mo a h1 h2 => mok_ext e (R.obj k mo a h1 h2), R.old, fun q hq => ⟨(R.tab q hq).1.ext e, (R.tab q hq).2⟩⟩
  · rcases R.fr a o h with z | ⟨kvs, ob, e1, z⟩
    · exact .inl (e _ _ z)
    · exact .inr ⟨kvs, ob, e1, e _ _ z⟩
  · cases q : H a with
    | none => exact R.al a m q
    | some o =>
      rw [e a o q] at z
      cases z
end
end Mi
namespace Mi
open PySem PySem.Spec PyProof.Rows L2
end Mi
namespace Mi
open PySem PySem.Spec PyProof.Rows L2
def ownFmt (tb : List (Nat × Nat)) (G : Nat → Fn) (x : VL) (M : MH) : Option (Rs VL) := match clsX M x with
  | some c => (match tb.lookup c with
    | some i => strR (G i [x] M)
    | none => none)
  | none => none
section
variable {M : MH} {n : Int}
variable {cs : List Nat} {b' : String} {d : PD} {ds : List PD} {x : Str} {q : Bool} {ks : List Key}
@[simp] theorem isiX_i : isiX cs b' (.d (.int n)) M = some (.ok (.d (.bl (isiT b' "int"))) M) := rfl
@[simp] theorem isiX_b : isiX cs b' (.d (.bl q)) M = some (.ok (.d (.bl (isiT b' "bool"))) M) := rfl
@[simp] theorem isiX_n : isiX cs b' (.d .non) M = some (.ok (.d (.bl (isiT b' "NoneType"))) M) := rfl
@[simp] theorem isiX_s : isiX cs b' (.d (.str x)) M = some (.ok (.d (.bl (isiT b' "str"))) M) := rfl
@[simp] theorem isiX_t : isiX cs b' (.d (.tup ds)) M = some (.ok (.d (.bl (isiT b' "tuple"))) M) := rfl
@[simp] theorem isiX_l : isiX cs b' (.d (.lst ds)) M = some (.ok (.d (.bl (isiT b' "list"))) M) := rfl
@[simp] theorem isiT_ii : isiT "int" "int" = true := rfl
@[simp] theorem isiT_ib : isiT "int" "bool" = true := rfl
@[simp] theorem isiT_bi : isiT "bool" "int" = false := rfl
@[simp] theorem isiT_bb : isiT "bool" "bool" = true := rfl
@[simp] theorem isiT_in : isiT "int" "NoneType" = false := rfl
@[simp] theorem isiT_is : isiT "int" "str" = false := rfl
@[simp] theorem isiT_it : isiT "int" "tuple" = false := rfl
@[simp] theorem isiT_il : isiT "int" "list" = false := rfl
end
end Mi
namespace Mi
open PySem PySem.Spec PyProof.Rows L2
end Mi
namespace Mi
open PySem PySem.Spec PyProof.Rows L2
mutual
def pyOf : PD → Option PyData
  | .non => some .none
  | .bl b => some (.bool b)
  | .int i => some (.int i)
  | .str x => some (.str x)
  | .tup xs => (match pyAll xs with
    | some ys => some (.tuple ys)
    | none => none)
  | .lst xs => (match pyAll xs with
    | some ys => some (.list ys)
    | none => none)
  | .scr _ => none
  | .dct _ _ => none
  | .ins _ _ => none
  | .unk => none
  | .exc _ _ => none
def pyAll : List PD → Option (List PyData)
  | [] => some []
  | x :: xs => (match pyOf x, pyAll xs with
    | some y, some ys => some (y :: ys)
    | _, _ => none)
end
end Mi
namespace Mi
open PySem PySem.Spec PyProof.Rows L2
end Mi
namespace Mi
open PySem PySem.Spec PyProof.Rows L2
end Mi
namespace Mi
open PySem PySem.Spec PyProof.Rows L2
end Mi
namespace Mi
open PySem PySem.Spec PyProof.Rows L2
end Mi
namespace Mi
open PySem PySem.Spec PyProof.Rows L2
end Mi
namespace Mi
open PySem PySem.Spec PyProof.Rows L2
abbrev Tb.wx (T : Tb) (e : Addr × Nat × Option Addr) : Tb := { T with ex := some e }
mutual
def noX : PD → Bool
  | .tup xs => noXs xs
  | .lst xs => noXs xs
  | .scr xs => noXs xs
  | .dct _ xs => noXs xs
  | .ins _ xs => noXs xs
  | .exc _ _ => false
  | _ => true
def noXs : List PD → Bool
  | [] => true
  | d :: ds => noX d && noXs ds
end
def noXV : VL → Bool
  | .d x => noX x
  | .r _ => true
section
variable {K : PySem.W.Frag} {T : Tb} {F H : Hp} {α : List Addr} {M : MH} {e : Addr × Nat × Option Addr}
mutual
theorem Rep.toX (hT : T.ex = none) : ∀ {d : PD} {v : V}, Rep K T F v d → Rep K (T.wx e) F v d
  | .non, _, h => by cases h; exact .non
  | .bl b, _, h => by cases h; exact .bl b
  | .int i, _, h => by cases h; exact .int i
  | .str x, _, h => by cases h; exact .str x
  | .unk, _, h => by cases h; exact .unk _
  | .tup ds, _, h => by cases h with | tup h1 h2 => exact .tup h1 (Reps.toX hT h2)
  | .lst ds, _, h => by cases h with | lst h1 h2 => exact .lst h1 (Reps.toX hT h2)
  | .scr ds, _, h => by cases h with | scr h1 h2 => exact .scr h1 (Reps.toX hT h2)
  | .dct ks ds, _, h => by cases h with | dct h1 h2 h3 h4 => exact .dct h1 h2 h3 (Reps.toX hT h4)
  | .ins c ds, _, h => by cases h with | ins h1 h2 h3 h4 => exact .ins h1 h2 h3 (Reps.toX hT h4)
  | .exc c ds, _, h => by
    cases h with
    | exc0 h1 => rw [hT] at h1; cases h1
    | exc1 h1 h2 h3 h4 => rw [hT] at h1; cases h1
theorem Reps.toX (hT : T.ex = none) : ∀ {ds : List PD} {vs : List V}, Reps K T F vs ds → Reps K (T.wx e) F vs ds
  | [], _, h => by cases h; exact .nil
  | d :: ds, _, h => by cases h with | cons h1 h2 => exact .cons (Rep.toX hT h1) (Reps.toX hT h2)
end
theorem RepV.toX (hT : T.ex = none) {v : V} : ∀ {x : VL}, RepV K T F α v x → RepV K (T.wx e) F α v x
  | .d _, h => Rep.toX hT h
  | .r _, h => h
theorem RepVs.toX (hT : T.ex = none) : ∀ {vs : List V} {xs : List VL}, RepVs K T F α vs xs → RepVs K (T.wx e) F α vs xs
  | _, _, .nil => .nil
  | _, _, .cons h t => .cons (h.toX hT) (RepVs.toX hT t)
theorem MOk.toX (hT : T.ex = none) {a : Addr} : ∀ {mo : MO}, MOk K T F α H a mo → MOk K (T.wx e) F α H a mo
  | .lst _, ⟨xs, h1, h2⟩ => ⟨xs, h1, h2.toX hT⟩
  | .dct _ _, ⟨kvs, h1, h2, h3⟩ => ⟨kvs, h1, h2, h3.toX hT⟩
  | .ins _ _, ⟨dx, fs, h1, h2, h3⟩ => ⟨dx, fs, h1, h2, h3.toX hT⟩
  | .dcr _ _, ⟨kvs, h1, h2, h3⟩ => ⟨kvs, h1, h2, h3.toX hT⟩
  | .dtp _ _, ⟨kvs, h1, h2, h3⟩ => ⟨kvs, h1, h2, h3.toX hT⟩
  | .tpm _, h => h
  | .gone, _ => trivial
theorem HR.toX (hT : T.ex = none) (R : HR K T H M F α) : HR K (T.wx e) H M F α := ⟨R.fr, R.len, R.nd, R.al, R.sep, fun k mo a h1 h2 => (R.obj k mo a h1 h2).toX hT, R.old, R.tab⟩
theorem LR.toX (hT : T.ex = none) {σ : L2.St} {ρ : EV} (L : LR K T F α σ ρ) : LR K (T.wx e) F α σ ρ := ⟨L.1, fun i vl h => by
  obtain ⟨v, h1, h2⟩ := L.2 i vl h
  exact ⟨v, h1, h2.toX hT⟩⟩
theorem ExAt.rep {a : Addr} {c : Nat} {xs : List PD} {dd : Option Addr} (hT : T.ex = none) (h : ExAt K T F c xs dd) : Rep K (T.wx (a, c, dd)) F (.ref a) (.exc c xs) := by
  rcases h with ⟨rfl, rfl⟩ | ⟨d, v, x, n, rfl, rfl, h1, h2, h3⟩
  · exact .exc0 rfl
  · exact .exc1 rfl h1 h2 (.cons (h3.toX hT) .nil)
theorem LR.gone {σ : L2.St} {ρ : EV} (L : LR K T F α σ ρ) (i : Nat) : LR K T F α (σ.set i none) (ρ.set i none) := ⟨by simp [L.1], fun j vl h => by
  by_cases q : j = i
  · subst q
    by_cases l : j < ρ.length
    · rw [List.getElem?_set_self l] at h
      cases h
    · rw [List.getElem?_eq_none (by simpa using l)] at h
      cases h
  · rw [List.getElem?_set_ne (Ne.symm q)] at h
    rw [List.getElem?_set_ne (Ne.symm q)]
    exact L.2 j vl h⟩
end
/-- what stands still behind a suite: the slots are as before, or hold no exception -/
def OkE (ρ ρ2 : EV) : Prop := ∀ (j : Nat) (vl : VL), ρ2[j]? = some (some vl) → ρ[j]? = some (some vl) ∨ noXV vl = true
structure HdX where
  cs : List Nat
  io : Option Nat
  b : SX
open Classical in
/-- a suite's end -/
noncomputable def suiteE (io : Option Nat) (ρ : EV) (M : MH) : Option (Fl × EV × MH) → Option (Fl × EV × MH)
  | some (.rt v, _, M2) => if M2 = M ∧ noXV v = true then some (.rt v, ρ, M) else none
  | some (.nx, ρ2, M2) => (match io with
    | none => if M2 = M ∧ OkE ρ ρ2 then some (.nx, ρ2, M) else none
    | some i => if M2 = M ∧ OkE ρ (ρ2.set i none) then some (.nx, ρ2.set i none, M) else none)
  | _ => none
noncomputable def hdl (c : Nat) (xs : List PD) : List HdX → EV → MH → Option (Fl × EV × MH)
  | [], ρ, M => some (.ex c xs, ρ, M)
  | h :: r, ρ, M => if h.cs.any (subC c) = true then suiteE h.io ρ M (h.b (match h.io with
    | none => ρ
    | some i => ρ.set i (some (.d (.exc c xs)))) M) else hdl c xs r ρ M
end Mi
namespace Mi
open PySem PySem.Spec PyProof.Rows L2 L2H
end Mi
namespace Mi
open PySem PySem.Spec PyProof.Rows L2 L2H
end Mi
namespace Mi
open PySem PySem.Spec PyProof.Rows L2
end Mi
namespace L2H
open PySem PySem.Spec PyProof.Rows L2
theorem RoomH.units {k : Nat} {A : Around} (r : RoomH k A) : A.units + 64 < cLine := by have := r.un; omega
end L2H
namespace Mi
open PySem PySem.Spec PyProof.Rows L2 L2H
theorem takes0N {X : Cx} : L2N.Takes X (fun _ _ _ _ => False) := fun _ _ x => by
  obtain ⟨_, _, _, _, _, _, _, _, _, _, _, _, _, _, _, _, z⟩ := x
  exact z.elim
end Mi
namespace PySem.W
open PySem PySem.Calls PyProof.Rows Builtin
end PySem.W
namespace Mi
open PySem PySem.Spec PyProof.Rows L2
open PySem.Builtin PySem.Builtin.List
mutual
/-- what can be shown -/
def shwD : PD → Bool
  | .tup xs => shwDs xs
  | .lst xs => shwDs xs
  | .non => true
  | .bl _ => true
  | .int _ => true
  | .str _ => true
  | .dct ks vs => ks.isEmpty && vs.isEmpty
  | .ins _ _ => true
  | _ => false
def shwDs : List PD → Bool
  | [] => true
  | x :: xs => shwD x && shwDs xs
end
mutual
def dep : PD → Nat
  | .tup xs => deps xs + 1
  | .lst xs => deps xs + 1
  | _ => 0
def deps : List PD → Nat
  | [] => 0
  | x :: xs => max (dep x) (deps xs)
end
structure SubX (X : Cx) (k e : Nat) (A : Around) : Prop where
  hd : A.handled = X.A.handled
  dp : A.depth + 3 * k + 5 + e < recursionLimit
  un : A.units + 16 * k + 200 + 3 * e < cLine
  fr : A.frames = X.A.frames
theorem SubX.in1 {X : Cx} {k e : Nat} {A : Around} (h : SubX X k (e + 1) A) : SubX X k e A.in1 := ⟨h.hd, by have := h.dp; show A.depth + 3 * k + 5 + e < _; omega, by have := h.un; show A.units + 1 + 16 * k + 200 + 3 * e < _; omega, h.fr⟩
theorem SubX.under {X : Cx} {k e : Nat} {A : Around} {c : Code} (h : SubX X k (e + 1) A) (hw : c.weight ≤ 1) (hu : (A.under c).units = A.units + 1) (hf : c.envs = []) : SubX X k e (A.under c) :=
  ⟨h.hd, by have := h.dp; show A.depth + c.weight + 3 * k + 5 + e < _; omega, by rw [hu]; have := h.un; omega, by
    show pushEnvs c.envs A.frames = _
    rw [hf, ← h.fr]
    cases A.frames <;> rfl⟩
section
variable (X : Cx) (T : Tb) (pins : List (Addr × Obj)) (σ : L2.St) (H F : Hp) (α : List Addr) (M : MH)
/-- what stays while something is shown -/
def ShS (s : Shared) : Prop := ∃ H1 F1 α1, L2.Inv X pins σ H1 s ∧ HR X.K T H1 M F1 α1 ∧ Step H F α H1 F1 α1
end
def GdOk (K : PySem.W.Frag) (T : Tb) (F : Hp) (g : List Code) (d : PD) : Prop := ∀ id b rest kw, Code.builtin id ⟨.ref b :: rest, kw⟩ ∈ g → ∃ d', Rep K T F (.ref b) d' ∧ shwD d' = true ∧ dep d < dep d'
theorem GdOk.mono {K : PySem.W.Frag} {T : Tb} {F F' : Hp} {g : List Code} {d d' : PD} (h : GdOk K T F g d) (e : Same F F') (l : dep d' ≤ dep d) : GdOk K T F' g d' := fun id b rest kw m => by
  obtain ⟨y, h1, h2, h3⟩ := h id b rest kw m
  exact ⟨y, h1.mono e, h2, by omega⟩
theorem GdOk.cons {K : PySem.W.Frag} {T : Tb} {F : Hp} {g : List Code} {d d' : PD} {id : String} {a : Addr} {rest : List Value} {kw : List (Str × Value)} (h : GdOk K T F g d) (r : Rep K T F (.ref a) d) (o : shwD d = true) (l : dep d' < dep d) : GdOk K T F (.builtin id ⟨.ref a :: rest, kw⟩ :: g) d' := fun id' b rest' kw' m => by
  rcases List.mem_cons.mp m with e | m
  · cases e
    exact ⟨d, r, o, l⟩
  · exact (h.mono (Same.refl _) (by omega)) id' b rest' kw' m
theorem ShS.tok {X : Cx} {T : Tb} {pins : List (Addr × Obj)} {σ : L2.St} {H F : Hp} {α : List Addr} {M : MH} {s : Shared} (h : ShS X T pins σ H F α M s) (t : Nat) : ShS X T pins σ H F α M { s with toks := t } := by
  obtain ⟨H1, F1, α1, I, R, st⟩ := h
  exact ⟨H1, F1, α1, I.tok t, R, st⟩
section
variable {X : Cx} {T : Tb} {k e : Nat} {pins : List (Addr × Obj)} {σ : L2.St} {H F : Hp} {α : List Addr} {M : MH} {tb : List (Nat × Nat)} {G : Nat → Fn}
theorem ShS.trans {H1 F1 : Hp} {α1 : List Addr} {s : Shared} (h : ShS X T pins σ H1 F1 α1 M s) (st : Step H F α H1 F1 α1) : ShS X T pins σ H F α M s := by
  obtain ⟨H2, F2, α2, I, R, st2⟩ := h
  exact ⟨H2, F2, α2, I, R, st.trans st2⟩
end
end Mi
namespace Mi
open PySem PySem.Spec PyProof.Rows L2
open Classical in
/-- the own == of two instances with plain fields -/
noncomputable def eqP (tb : List (Nat × Nat)) (G : Nat → Fn) (M : MH) : PD → PD → Option Bool
  | .ins c as, .ins c' bs => if c = c' ∧ as.all flatD = true ∧ bs.all flatD = true then (match tb.lookup c with
      | some i => if G i [.d (.ins c as), .d (.ins c as)] M = some (.ok (.d (.bl true)) M) then (match G i [.d (.ins c as), .d (.ins c' bs)] M with
        | some (.ok (.d (.bl b)) M2) => if M2 = M then some b else none
        | _ => none) else none
      | none => none) else none
  | _, _ => none
noncomputable def eqPs (tb : List (Nat × Nat)) (G : Nat → Fn) (M : MH) : List PD → List PD → Option Bool
  | x :: xs, y :: ys => (match eqP tb G M x y with
    | some true => eqPs tb G M xs ys
    | some false => some false
    | none => none)
  | [], [] => some true
  | [], _ :: _ => some false
  | _ :: _, [] => some false
section
variable {X : Cx} {T : Tb} {k : Nat} {tb : List (Nat × Nat)} {G : Nat → Fn} {pins : List (Addr × Obj)} {σ : L2.St} {H F : Hp} {α : List Addr} {M : MH} {s : Shared}
noncomputable def eqV (tb : List (Nat × Nat)) (G : Nat → Fn) (g : VL → VL → MH → Option (Rs VL)) (x y : VL) (M : MH) : Option (Rs VL) := match x, y with
  | .d (.tup xs), .d (.tup ys) => (match eqPs tb G M xs ys with
    | some b => some (.ok (.d (.bl b)) M)
    | none => g x y M)
  | _, _ => g x y M
end
def eqE (x y : PD) : Option PD := match x, y with
  | .tup xs, .tup [] => some (.bl xs.isEmpty)
  | x, y => eqD x y
end Mi
namespace Mi
open PySem PySem.Spec PyProof.Rows L2
end Mi
namespace Mi
open PySem PySem.Spec PyProof.Rows L2
def sPar4 (i j l o : Nat) (a : AX) : SX := fun ρ M => bndS (a ρ M) ρ fun vs M1 => match vs with
  | [u, v, w, x] => some (.nx, (((ρ.set i (some u)).set j (some v)).set l (some w)).set o (some x), M1)
  | _ => none
def four (vs : List VL) (k : VL → VL → VL → VL → Prop) : Prop := match vs with
  | [u, v, w, x] => k u v w x
  | _ => False
@[simp] theorem four_eq {u v w x : VL} {k : VL → VL → VL → VL → Prop} : four [u, v, w, x] k ↔ k u v w x := Iff.rfl
@[simp] theorem wps_par4 {i j l o : Nat} {a : AX} {ρ : EV} {M : MH} {Q : Fl → EV → MH → Prop} : wps (sPar4 i j l o a ρ M) Q ↔ wpo (a ρ M) (fun vs M1 => four vs fun u v w x => Q .nx ((((ρ.set i (some u)).set j (some v)).set l (some w)).set o (some x)) M1) (fun c xs M1 => Q (.ex c xs) ρ M1) := by
  unfold sPar4; rw [wps_bnd]
  constructor <;> intro h <;> refine wpo_mono h fun vs M1 h => ?_
  · split at h
    · exact h
    · exact h.elim
  · unfold four at h
    split at h
    · exact h
    · exact h.elim
end Mi
namespace Mi
open PySem PySem.Spec PyProof.Rows L2
def gTl (r : List PD → EV → MH → Option (EV × MH)) : TGX := fun v ρ M => match v with
  | .r k => (match M[k]? with
    | some (.lst ds) => r ds ρ M
    | _ => none)
  | .d (.lst ds) => r ds ρ M
  | _ => none
@[simp] theorem gTl_d {r : List PD → EV → MH → Option (EV × MH)} {ds : List PD} {ρ : EV} {M : MH} : gTl r (.d (.lst ds)) ρ M = r ds ρ M := rfl
end Mi
namespace Mi
open PySem PySem.Spec PyProof.Rows L2
def gAt (cs : List Nat) (f : Str) (go : EX) : TGX := fun v ρ M => match go ρ M with
  | some (.ok o M1) => (match setF cs f v o M1 with
    | some M2 => some (ρ, M2)
    | none => none)
  | _ => none
end Mi
namespace Mi
open PySem PySem.Spec PyProof.Rows L2
/-- C(..), not told from now on: its fields may change -/
def mkMX (c : Nat) (f : Fn) : Fn := fun xs M => match f (.r M.length :: xs) (M ++ [.ins c []]) with
  | some (.ok (.d .non) M2) => some (.ok (.r M.length) M2)
  | some (.ex c' ds M2) => some (.ex c' ds (M2.take M.length))
  | _ => none
end Mi
namespace Mi
open PySem PySem.Spec PyProof.Rows L2
end Mi
namespace Mi
open PySem PySem.Spec PyProof.Rows L2
section
variable {Q : Fl → EV → MH → Prop} {QO : VL → MH → Prop} {E : EW} {M : MH} {ρ : EV}
@[simp] theorem wps_raise {c : Nat} {g : EX} : wps (sRaise c g ρ M) Q ↔ wpo (g ρ M) (fun v M1 => isDt v fun x => Q (.ex c [x]) ρ M1) (fun c' xs M1 => Q (.ex c' xs) ρ M1) := by
  unfold sRaise; rw [wps_bnd]
  constructor <;> intro h <;> refine wpo_mono h fun v M1 h => ?_ <;> cases v <;> exact h
@[simp] theorem wps_raise0 {c : Nat} : wps (sRaise0 c ρ M) Q ↔ Q (.ex c []) ρ M := Iff.rfl
end
end Mi
namespace Mi
open PySem PySem.Spec PyProof.Rows L2
def Rz (d : PD) (w dp : Nat) : Prop := ∃ p, pyOf d = some p ∧ p.showable = true ∧ p.hasDict = false ∧ p.leavesShort 60 = true ∧ p.weight ≤ w ∧ p.depth ≤ dp
theorem Rz.mono {d : PD} {w w' dp dp' : Nat} (h : Rz d w dp) (h1 : w ≤ w') (h2 : dp ≤ dp') : Rz d w' dp' := let ⟨p, a, b, c, d, e, f⟩ := h; ⟨p, a, b, c, d, Nat.le_trans e h1, Nat.le_trans f h2⟩
end Mi
namespace Mi
open PySem PySem.Spec PyProof.Rows L2
/-- 9: values.is_integer, 1 parameters, 1 slots -/
def b_values_is_integer (G : Nat → Fn) : SX :=
  sRet (eAnd (eUn (isiD "int") (eVar 0)) (eNot (eUn (isiD "bool") (eVar 0))))
/-- 10: values.is_between, 3 parameters, 3 slots -/
def b_values_is_between (G : Nat → Fn) : SX :=
  sRet (eAnd (eApp (G 9) (aCons (eVar 0) (aNil))) (eChain leD leD (eVar 1) (eVar 0) (eVar 2)))
/-- 11: values.check_integer, 1 parameters, 1 slots -/
def b_values_check_integer (G : Nat → Fn) : SX :=
  sIf (tNt (tTru (eApp (G 9) (aCons (eVar 0) (aNil))))) (sRaise 3 (eVar 0)) (sNx)
/-- 12: values.check_clock, 2 parameters, 2 slots -/
def b_values_check_clock (G : Nat → Fn) : SX :=
  sSeq (sIf (tOrr (tNt (tTru (eApp (G 9) (aCons (eVar 0) (aNil))))) (tBl (eBin ltD (eVar 0) (eC (.int 1))))) (sRaise 3 (eVar 0)) (sNx))
    (sIf (tBl (eBin gtD (eVar 0) (eVar 1))) (sRaise 9 (eVar 0)) (sNx))
/-- 13: values.check_size, 2 parameters, 2 slots -/
def b_values_check_size (G : Nat → Fn) : SX :=
  sIf (tNt (tTru (eApp (G 10) (aCons (eVar 0) (aCons (eC (.int 1)) (aCons (eVar 1) (aNil))))))) (sRaise 3 (eVar 0)) (sNx)
/-- 14: values.check_times, 2 parameters, 2 slots -/
def b_values_check_times (G : Nat → Fn) : SX :=
  sSeq (sIf (tOrr (tNt (tTru (eApp (G 9) (aCons (eVar 0) (aNil))))) (tBl (eBin ltD (eVar 0) (eVar 1)))) (sRaise 3 (eVar 0)) (sNx))
    (sIf (tBl (eBin gtD (eVar 0) (eC (.int 1000000000000000000000000000000)))) (sRaise 9 (eVar 0)) (sNx))
/-- 15: values.check_hour, 2 parameters, 2 slots -/
def b_values_check_hour (G : Nat → Fn) : SX :=
  sIf (tNt (tTru (eApp (G 10) (aCons (eVar 0) (aCons (eC (.int 0)) (aCons (eBin subD (eVar 1) (eC (.int 1))) (aNil))))))) (sRaise 4 (eVar 0)) (sNx)
/-- 16: values.number_of, 1 parameters, 2 slots -/
def b_values_number_of (G : Nat → Fn) : SX :=
  sSeq (sIf (tOrr (tNt (tBl (eChain leD leD (eC (.int 1)) (eApp (opN lenD) (aCons (eVar 0) (aNil))) (eC (.int 20))))) (tNt (tTru (eApp (opN allD) (aCons (eLc [1] (bd1 1) (iSeq (eVar 0)) (tYs) (eBin inD (eVar 1) (eC (.str "0123456789")))) (aNil)))))) (sRet (eC .non)) (sNx))
    (sSeq (sIf (tAn (tBl (eBin neD (eVar 0) (eC (.str "0")))) (tBl (eBin eqD (eBin idxD (eVar 0) (eC (.int 0))) (eC (.str "0"))))) (sRet (eC .non)) (sNx))
    (sRet (eApp (opN intSD) (aCons (eVar 0) (aNil)))))
/-- 17: values.greatest_divisor, 2 parameters, 2 slots -/
def b_values_greatest_divisor (G : Nat → Fn) : SX :=
  sSeq (sWhile (tBl (eBin neD (eVar 1) (eC (.int 0)))) (sPar2 0 1 (aCons (eVar 1) (aCons (eBin modD (eVar 0) (eVar 1)) (aNil)))))
    (sRet (eVar 0))
/-- 18: values.divisors_of, 1 parameters, 4 slots -/
def b_values_divisors_of (G : Nat → Fn) : SX :=
  sSeq (sPar3 1 2 3 (aCons (eApp mkMut (aNil)) (aCons (eApp mkMut (aNil)) (aCons (eC (.int 1)) (aNil)))))
    (sSeq (sWhile (tBl (eBin leD (eBin mulD (eVar 3) (eVar 3)) (eVar 0))) (sSeq (sIf (tBl (eBin eqD (eBin modD (eVar 0) (eVar 3)) (eC (.int 0)))) (sSeq (sExp (eApnd (eVar 1) (eVar 3)))
    (sIf (tBl (eBin ltD (eBin mulD (eVar 3) (eVar 3)) (eVar 0))) (sExp (eApnd (eVar 2) (eBin fdivD (eVar 0) (eVar 3)))) (sNx))) (sNx))
    (sAsg 3 (eBin addD (eVar 3) (eC (.int 1))))))
    (sRet (eBin addD (eVar 1) (eUn revD (eVar 2)))))
/-- 19: values.divided_up, 2 parameters, 2 slots -/
def b_values_divided_up (G : Nat → Fn) : SX :=
  sRet (eUn negD (eBin fdivD (eUn negD (eVar 0)) (eVar 1)))
/-- 20: hours.wrong_hour, 2 parameters, 4 slots -/
def b_hours_wrong_hour (G : Nat → Fn) : SX :=
  sSeq (sIf (tNt (tTru (eUn (isiD "tuple") (eVar 0)))) (sRet (eC .non)) (sNx))
    (sSeq (sFor (gTp (gsCons (gNm 2) (gsCons (gNm 3) (gsNil)))) (iEnumD (eVar 0)) (sIf (tOrr (tNt (tTru (eApp (G 10) (aCons (eVar 3) (aCons (eC (.int 0)) (aCons (eBin subD (eVar 1) (eC (.int 1))) (aNil))))))) (tAn (tBl (eBin gtD (eVar 2) (eC (.int 0)))) (tBl (eBin leD (eVar 3) (eBin idxD (eVar 0) (eBin subD (eVar 2) (eC (.int 1)))))))) (sRet (eVar 2)) (sNx)))
    (sRet (eUn negD (eC (.int 1)))))
/-- 21: hours.summed, 3 parameters, 6 slots -/
def b_hours_summed (G : Nat → Fn) : SX :=
  sSeq (sAsg 3 (eDc [4, 5] (bd1 4) (iSeq (eVar 1)) (ac2 [5] (bd1 5) (iSeq (eVar 2)) (ac1 (eBin modD (eBin addD (eVar 4) (eVar 5)) (eVar 0)) (eC (.bl true))))))
    (sRet (eApp (opN tupleD) (aCons (eApp (opN sortedKD) (aCons (eVar 3) (aNil))) (aNil))))
/-- 22: hours.moved_by, 3 parameters, 4 slots -/
def b_hours_moved_by (G : Nat → Fn) : SX :=
  sRet (eApp (opN tupleD) (aCons (eApp (opN sortedD) (aCons (eLc [3] (bd1 3) (iSeq (eVar 1)) (tYs) (eBin modD (eBin addD (eVar 3) (eVar 2)) (eVar 0))) (aNil))) (aNil)))
/-- 23: hours.grown, 3 parameters, 6 slots -/
def b_hours_grown (G : Nat → Fn) : SX :=
  sSeq (sPar2 3 4 (aCons (eApp mkTup (aCons (eC (.int 0)) (aNil))) (aCons (eC (.int 0)) (aNil))))
    (sSeq (sWhile (tBl (eBin ltD (eVar 4) (eVar 2))) (sSeq (sAsg 5 (eApp (G 21) (aCons (eVar 0) (aCons (eVar 3) (aCons (eVar 1) (aNil))))))
    (sSeq (sIf (tBl (eBin eqD (eApp (opN lenD) (aCons (eVar 5) (aNil))) (eApp (opN lenD) (aCons (eVar 3) (aNil))))) (sBrk) (sNx))
    (sPar2 3 4 (aCons (eVar 5) (aCons (eBin addD (eVar 4) (eC (.int 1))) (aNil)))))))
    (sRet (eApp mkTup (aCons (eVar 4) (aCons (eVar 3) (aNil))))))
/-- 24: hours.__init__, 3 parameters, 4 slots -/
def b_hours_Hours_init_ (G : Nat → Fn) : SX :=
  sSeq (sExp (eApp (G 12) (aCons (eVar 1) (aCons (eC (.int 240)) (aNil)))))
    (sSeq (sAsg 3 (eApp (G 20) (aCons (eVar 2) (aCons (eVar 1) (aNil)))))
    (sSeq (sIf (tBl (eBin neD (eVar 3) (eUn negD (eC (.int 1))))) (sRaise 8 (eVar 3)) (sNx))
    (sSeq (sSetF [13] "many" (eVar 0) (eVar 1))
    (sSetF [13] "held" (eVar 0) (eVar 2)))))
/-- 25: hours.read, 2 parameters, 3 slots -/
def b_hours_Hours_read (G : Nat → Fn) : SX :=
  sSeq (sAsg 2 (eApp (G 52) (aCons (eVar 1) (aNil))))
    (sSeq (sIf (tBl (eBin isD (eVar 2) (eC .non))) (sRaise 2 (eVar 1)) (sNx))
    (sRet (eVar 2)))
/-- 26: hours.whole, 2 parameters, 2 slots -/
def b_hours_Hours_whole (G : Nat → Fn) : SX :=
  sSeq (sExp (eApp (G 12) (aCons (eVar 1) (aCons (eC (.int 240)) (aNil)))))
    (sRet (eApp (mkX fnC 13 (G 24)) (aCons (eVar 1) (aCons (eUn tupRg1 (eVar 1)) (aNil)))))
/-- 27: hours.clock, 1 parameters, 1 slots -/
def b_hours_Hours_clock (G : Nat → Fn) : SX :=
  sRet (eFld fnC [13] "many" (eVar 0))
/-- 28: hours.hours, 1 parameters, 1 slots -/
def b_hours_Hours_hours (G : Nat → Fn) : SX :=
  sRet (eFld fnC [13] "held" (eVar 0))
/-- 29: hours.period, 1 parameters, 2 slots -/
def b_hours_Hours_period (G : Nat → Fn) : SX :=
  sSeq (sFor (gNm 1) (iSeq (eApp (G 18) (aCons (eFld fnC [13] "many" (eVar 0)) (aNil)))) (sIf (tBl (eBin eqD (eApp (G 22) (aCons (eFld fnC [13] "many" (eVar 0)) (aCons (eFld fnC [13] "held" (eVar 0)) (aCons (eVar 1) (aNil))))) (eFld fnC [13] "held" (eVar 0)))) (sRet (eVar 1)) (sNx)))
    (sRet (eFld fnC [13] "many" (eVar 0)))
/-- 30: hours.onset, 1 parameters, 1 slots -/
def b_hours_Hours_onset (G : Nat → Fn) : SX :=
  sSeq (sIf (tBl (eBin eqD (eFld fnC [13] "held" (eVar 0)) (eApp mkTup (aNil)))) (sRet (eC (.int 1))) (sNx))
    (sRet (eBin idxD (eApp (G 23) (aCons (eFld fnC [13] "many" (eVar 0)) (aCons (eApp (G 22) (aCons (eFld fnC [13] "many" (eVar 0)) (aCons (eFld fnC [13] "held" (eVar 0)) (aCons (eUn negD (eBin idxD (eFld fnC [13] "held" (eVar 0)) (eC (.int 0)))) (aNil))))) (aCons (eFld fnC [13] "many" (eVar 0)) (aNil))))) (eC (.int 0))))
/-- 31: hours.span, 1 parameters, 3 slots -/
def b_hours_Hours_span (G : Nat → Fn) : SX :=
  sSeq (sAsg 1 (eFld fnC [13] "many" (eVar 0)))
    (sSeq (sFor (gNm 2) (iSeq (eFld fnC [13] "held" (eVar 0))) (sAsg 1 (eApp (G 17) (aCons (eVar 1) (aCons (eVar 2) (aNil))))))
    (sRet (eApp (mkX fnC 13 (G 24)) (aCons (eFld fnC [13] "many" (eVar 0)) (aCons (eApp (opN tupRg3) (aCons (eC (.int 0)) (aCons (eFld fnC [13] "many" (eVar 0)) (aCons (eVar 1) (aNil))))) (aNil))))))
/-- 32: hours.moved, 2 parameters, 2 slots -/
def b_hours_Hours_moved (G : Nat → Fn) : SX :=
  sSeq (sExp (eApp (G 11) (aCons (eVar 1) (aNil))))
    (sRet (eApp (mkX fnC 13 (G 24)) (aCons (eFld fnC [13] "many" (eVar 0)) (aCons (eApp (G 22) (aCons (eFld fnC [13] "many" (eVar 0)) (aCons (eFld fnC [13] "held" (eVar 0)) (aCons (eVar 1) (aNil))))) (aNil)))))
/-- 33: hours.fold, 2 parameters, 4 slots -/
def b_hours_Hours_fold (G : Nat → Fn) : SX :=
  sSeq (sExp (eApp (G 14) (aCons (eVar 1) (aCons (eC (.int 0)) (aNil)))))
    (sSeq (sIf (tBl (eBin eqD (eFld fnC [13] "held" (eVar 0)) (eApp mkTup (aNil)))) (sRet (eApp (mkX fnC 13 (G 24)) (aCons (eFld fnC [13] "many" (eVar 0)) (aCons (eIf (tBl (eBin eqD (eVar 1) (eC (.int 0)))) (eApp mkTup (aCons (eC (.int 0)) (aNil))) (eApp mkTup (aNil))) (aNil))))) (sNx))
    (sSeq (sAsg 2 (eBin idxD (eFld fnC [13] "held" (eVar 0)) (eC (.int 0))))
    (sSeq (sAsg 3 (eBin idxD (eApp (G 23) (aCons (eFld fnC [13] "many" (eVar 0)) (aCons (eApp (G 22) (aCons (eFld fnC [13] "many" (eVar 0)) (aCons (eFld fnC [13] "held" (eVar 0)) (aCons (eUn negD (eVar 2)) (aNil))))) (aCons (eVar 1) (aNil))))) (eC (.int 1))))
    (sRet (eApp (mkX fnC 13 (G 24)) (aCons (eFld fnC [13] "many" (eVar 0)) (aCons (eApp (G 22) (aCons (eFld fnC [13] "many" (eVar 0)) (aCons (eVar 3) (aCons (eBin mulD (eVar 1) (eVar 2)) (aNil))))) (aNil))))))))
/-- 34: hours.fewest, 2 parameters, 2 slots -/
def b_hours_Hours_fewest (G : Nat → Fn) : SX :=
  sSeq (sExp (eApp (G 15) (aCons (eVar 1) (aCons (eFld fnC [13] "many" (eVar 0)) (aNil)))))
    (sRet (eGetK (eApp (G 49) (aCons (eFld fnC [13] "many" (eVar 0)) (aCons (eFld fnC [13] "held" (eVar 0)) (aNil)))) (eVar 1)))
/-- 35: hours.row, 2 parameters, 6 slots -/
def b_hours_Hours_row (G : Nat → Fn) : SX :=
  sSeq (sExp (eApp (G 15) (aCons (eVar 1) (aCons (eFld fnC [13] "many" (eVar 0)) (aNil)))))
    (sSeq (sPar2 2 3 (aCons (eApp (G 49) (aCons (eFld fnC [13] "many" (eVar 0)) (aCons (eFld fnC [13] "held" (eVar 0)) (aNil)))) (aCons (eApp mkMut (aNil)) (aNil))))
    (sSeq (sIf (tBl (eBin notinKD (eVar 1) (eVar 2))) (sRet (eC .non)) (sNx))
    (sSeq (sWhile (tBl (eBin gtD (eBin idxKD (eVar 2) (eVar 1)) (eC (.int 0)))) (sFor (gNm 4) (iSeq (eFld fnC [13] "held" (eVar 0))) (sSeq (sAsg 5 (eBin modD (eBin subD (eVar 1) (eVar 4)) (eFld fnC [13] "many" (eVar 0))))
    (sIf (tBl (eBin eqD (eBin idxKD (eVar 2) (eVar 5)) (eBin subD (eBin idxKD (eVar 2) (eVar 1)) (eC (.int 1))))) (sSeq (sExp (eApnd (eVar 3) (eVar 4)))
    (sSeq (sAsg 1 (eVar 5))
    (sBrk))) (sNx)))))
    (sRet (eApp (opN tupleD) (aCons (eVar 3) (aNil)))))))
/-- 36: hours.__add__, 2 parameters, 2 slots -/
def b_hours_Hours_add_ (G : Nat → Fn) : SX :=
  sSeq (sExp (eApp (G 51) (aCons (eVar 0) (aCons (eVar 1) (aNil)))))
    (sRet (eApp (mkX fnC 13 (G 24)) (aCons (eFld fnC [13] "many" (eVar 0)) (aCons (eApp (G 21) (aCons (eFld fnC [13] "many" (eVar 0)) (aCons (eFld fnC [13] "held" (eVar 0)) (aCons (eProp [(13, 28)] G (eVar 1)) (aNil))))) (aNil)))))
/-- 37: hours.__sub__, 2 parameters, 2 slots -/
def b_hours_Hours_sub_ (G : Nat → Fn) : SX :=
  sSeq (sExp (eApp (G 51) (aCons (eVar 0) (aCons (eVar 1) (aNil)))))
    (sRet (eBin2 (own2 [(13, 36)] G addD) (eVar 0) (eUn2 (own1 [(13, 41)] G negD) (eVar 1))))
/-- 38: hours.__or__, 2 parameters, 3 slots -/
def b_hours_Hours_or_ (G : Nat → Fn) : SX :=
  sSeq (sExp (eApp (G 51) (aCons (eVar 0) (aCons (eVar 1) (aNil)))))
    (sRet (eApp (mkX fnC 13 (G 24)) (aCons (eFld fnC [13] "many" (eVar 0)) (aCons (eApp (opN tupleD) (aCons (eLc [2] (bd1 2) (iRange1 (eFld fnC [13] "many" (eVar 0))) (tOrr (tBl (eBin2 (ownIn [(13, 43)] G inD) (eVar 2) (eVar 0))) (tBl (eBin2 (ownIn [(13, 43)] G inD) (eVar 2) (eVar 1)))) (eVar 2)) (aNil))) (aNil)))))
/-- 39: hours.__and__, 2 parameters, 3 slots -/
def b_hours_Hours_and_ (G : Nat → Fn) : SX :=
  sSeq (sExp (eApp (G 51) (aCons (eVar 0) (aCons (eVar 1) (aNil)))))
    (sRet (eApp (mkX fnC 13 (G 24)) (aCons (eFld fnC [13] "many" (eVar 0)) (aCons (eApp (opN tupleD) (aCons (eLc [2] (bd1 2) (iSeq (eFld fnC [13] "held" (eVar 0))) (tBl (eBin2 (ownIn [(13, 43)] G inD) (eVar 2) (eVar 1))) (eVar 2)) (aNil))) (aNil)))))
/-- 40: hours.__invert__, 1 parameters, 2 slots -/
def b_hours_Hours_invert_ (G : Nat → Fn) : SX :=
  sRet (eApp (mkX fnC 13 (G 24)) (aCons (eFld fnC [13] "many" (eVar 0)) (aCons (eApp (opN tupleD) (aCons (eLc [1] (bd1 1) (iRange1 (eFld fnC [13] "many" (eVar 0))) (tBl (eBin notinD (eVar 1) (eFld fnC [13] "held" (eVar 0)))) (eVar 1)) (aNil))) (aNil))))
/-- 41: hours.__neg__, 1 parameters, 1 slots -/
def b_hours_Hours_neg_ (G : Nat → Fn) : SX :=
  sRet (eBin2 (own2 [(13, 42)] G mulD) (eVar 0) (eUn negD (eC (.int 1))))
/-- 42: hours.__mul__, 2 parameters, 4 slots -/
def b_hours_Hours_mul_ (G : Nat → Fn) : SX :=
  sSeq (sExp (eApp (G 11) (aCons (eVar 1) (aNil))))
    (sSeq (sAsg 2 (eDc [3] (bd1 3) (iSeq (eFld fnC [13] "held" (eVar 0))) (ac1 (eBin modD (eBin mulD (eVar 3) (eVar 1)) (eFld fnC [13] "many" (eVar 0))) (eC (.bl true)))))
    (sRet (eApp (mkX fnC 13 (G 24)) (aCons (eFld fnC [13] "many" (eVar 0)) (aCons (eApp (opN tupleD) (aCons (eApp (opN sortedKD) (aCons (eVar 2) (aNil))) (aNil))) (aNil))))))
/-- 43: hours.__contains__, 2 parameters, 2 slots -/
def b_hours_Hours_contains_ (G : Nat → Fn) : SX :=
  sRet (eAnd (eApp (G 10) (aCons (eVar 1) (aCons (eC (.int 0)) (aCons (eBin subD (eFld fnC [13] "many" (eVar 0)) (eC (.int 1))) (aNil))))) (eBin inD (eVar 1) (eFld fnC [13] "held" (eVar 0))))
/-- 44: hours.__len__, 1 parameters, 1 slots -/
def b_hours_Hours_len_ (G : Nat → Fn) : SX :=
  sRet (eApp (opN lenD) (aCons (eFld fnC [13] "held" (eVar 0)) (aNil)))
/-- 45: hours.__bool__, 1 parameters, 1 slots -/
def b_hours_Hours_bool_ (G : Nat → Fn) : SX :=
  sRet (eC (.bl true))
/-- 46: hours.__eq__, 2 parameters, 2 slots -/
def b_hours_Hours_eq_ (G : Nat → Fn) : SX :=
  sRet (eAnd (eUn2 (isiO [13] 13) (eVar 1)) (eAnd (eBin eqD (eFld fnC [13] "many" (eVar 0)) (eProp [(13, 27)] G (eVar 1))) (eBin eqD (eFld fnC [13] "held" (eVar 0)) (eProp [(13, 28)] G (eVar 1)))))
/-- 47: hours.__str__, 1 parameters, 2 slots -/
def b_hours_Hours_str_ (G : Nat → Fn) : SX :=
  sRet (eSt1 joinD (eC (.str " ")) (eApp mkLst (aCons (eFs [eUn fmtD (eFld fnC [13] "many" (eVar 0)), eC (.str ":")]) (aStar (eLc [1] (bd1 1) (iSeq (eFld fnC [13] "held" (eVar 0))) (tYs) (eApp (opN strD) (aCons (eVar 1) (aNil)))) (aNil)))))
/-- 48: hours.__repr__, 1 parameters, 1 slots -/
def b_hours_Hours_repr_ (G : Nat → Fn) : SX :=
  sRet (eFs [eC (.str "Hours "), eUn2 (ownFmt [(13, 47)] G) (eVar 0)])
/-- 49: hours.counted, 2 parameters, 7 slots -/
def b_hours_counted (G : Nat → Fn) : SX :=
  sSeq (sPar3 2 3 4 (aCons (eMutC (.dct [.inl 0] [.int 0])) (aCons (eApp mkLst (aCons (eC (.int 0)) (aNil))) (aCons (eC (.int 0)) (aNil)))))
    (sSeq (sWhile (tBl (eBin neD (eVar 3) (eApp mkLst (aNil)))) (sSeq (sAsg 4 (eBin addD (eVar 4) (eC (.int 1))))
    (sSeq (sAsg 5 (eLc [6] (bd1 6) (iSeq (eApp (G 21) (aCons (eVar 0) (aCons (eVar 3) (aCons (eVar 1) (aNil)))))) (tBl (eBin notinKD (eVar 6) (eVar 2))) (eVar 6)))
    (sSeq (sFor (gNm 6) (iSeq (eVar 5)) (sPut (eVar 2) (eVar 6) (eVar 4)))
    (sAsg 3 (eVar 5))))))
    (sRet (eVar 2)))
/-- 50: hours.check_hours, 1 parameters, 1 slots -/
def b_hours_check_hours (G : Nat → Fn) : SX :=
  sIf (tNt (tTru (eUn2 (isiO [13] 13) (eVar 0)))) (sRaise 6 (eVar 0)) (sNx)
/-- 51: hours.check_same, 2 parameters, 2 slots -/
def b_hours_check_same (G : Nat → Fn) : SX :=
  sSeq (sExp (eApp (G 50) (aCons (eVar 1) (aNil))))
    (sIf (tBl (eBin neD (eProp [(13, 27)] G (eVar 1)) (eProp [(13, 27)] G (eVar 0)))) (sRaise 7 (eProp [(13, 27)] G (eVar 1))) (sNx))
/-- 52: hours.hours_with, 1 parameters, 7 slots -/
def b_hours_hours_with (G : Nat → Fn) : SX :=
  sSeq (sIf (tNt (tTru (eUn (isiD "str") (eVar 0)))) (sRet (eC .non)) (sNx))
    (sSeq (sAsgG (gTp (gsCons (gNm 1) (gsCons (gNm 2) (gsCons (gNm 3) (gsNil))))) (eSt1 partD (eVar 0) (eC (.str ":"))))
    (sSeq (sAsg 4 (eApp (G 16) (aCons (eVar 1) (aNil))))
    (sSeq (sIf (tOrr (tBl (eBin eqD (eVar 2) (eC (.str "")))) (tOrr (tBl (eBin isD (eVar 4) (eC .non))) (tOrr (tNt (tBl (eChain leD leD (eC (.int 1)) (eVar 4) (eC (.int 240))))) (tBl (eBin notinD (eSlS (eVar 3) (oNo) (oSo (eC (.int 1)))) (eApp mkTup (aCons (eC (.str "")) (aCons (eC (.str " ")) (aNil))))))))) (sRet (eC .non)) (sNx))
    (sSeq (sAsg 5 (eIf (tBl (eBin neD (eVar 3) (eC (.str "")))) (eApp (opN tupleD) (aCons (eLc [6] (bd1 6) (iSeq (eSt1 splitD (eSlS (eVar 3) (oSo (eC (.int 1))) (oNo)) (eC (.str " ")))) (tYs) (eApp (G 16) (aCons (eVar 6) (aNil)))) (aNil))) (eApp mkTup (aNil))))
    (sRet (eIf (tBl (eBin eqD (eApp (G 20) (aCons (eVar 5) (aCons (eVar 4) (aNil)))) (eUn negD (eC (.int 1))))) (eApp (mkX fnC 13 (G 24)) (aCons (eVar 4) (aCons (eVar 5) (aNil)))) (eC .non)))))))
/-- 53: rules.__init__, 5 parameters, 5 slots -/
def b_rules_Rule_init_ (G : Nat → Fn) : SX :=
  sSeq (sExp (eApp (G 12) (aCons (eVar 1) (aCons (eC (.int 1000000000)) (aNil)))))
    (sSeq (sIf (tOrr (tNt (tTru (eApp (G 10) (aCons (eVar 2) (aCons (eC (.int 1)) (aCons (eVar 1) (aNil))))))) (tBl (eBin neD (eBin modD (eVar 1) (eVar 2)) (eC (.int 0))))) (sRaise 3 (eVar 2)) (sNx))
    (sSeq (sIf (tNt (tTru (eApp (G 10) (aCons (eVar 3) (aCons (eC (.int 0)) (aCons (eBin subD (eVar 2) (eC (.int 1))) (aNil))))))) (sRaise 3 (eVar 3)) (sNx))
    (sSeq (sIf (tNt (tTru (eApp (G 10) (aCons (eVar 4) (aCons (eC (.int 0)) (aCons (eVar 1) (aNil))))))) (sRaise 3 (eVar 4)) (sNx))
    (sSetF [14] "numbers" (eVar 0) (eApp mkTup (aCons (eVar 1) (aCons (eVar 2) (aCons (eVar 3) (aCons (eVar 4) (aNil))))))))))
/-- 54: rules.clock, 1 parameters, 1 slots -/
def b_rules_Rule_clock (G : Nat → Fn) : SX :=
  sRet (eBin idxD (eFld fnC [14] "numbers" (eVar 0)) (eC (.int 0)))
/-- 55: rules.step, 1 parameters, 1 slots -/
def b_rules_Rule_step (G : Nat → Fn) : SX :=
  sRet (eBin idxD (eFld fnC [14] "numbers" (eVar 0)) (eC (.int 1)))
/-- 56: rules.first, 1 parameters, 1 slots -/
def b_rules_Rule_first (G : Nat → Fn) : SX :=
  sRet (eBin idxD (eFld fnC [14] "numbers" (eVar 0)) (eC (.int 2)))
/-- 57: rules.size, 1 parameters, 1 slots -/
def b_rules_Rule_size (G : Nat → Fn) : SX :=
  sRet (eBin idxD (eFld fnC [14] "numbers" (eVar 0)) (eC (.int 3)))
/-- 58: rules.listed, 1 parameters, 2 slots -/
def b_rules_Rule_listed (G : Nat → Fn) : SX :=
  sSeq (sIf (tBl (eBin gtD (eProp [(14, 54)] G (eVar 0)) (eC (.int 240)))) (sRaise 9 (eProp [(14, 54)] G (eVar 0))) (sNx))
    (sRet (eApp (mkX fnC 13 (G 24)) (aCons (eProp [(14, 54)] G (eVar 0)) (aCons (eApp (opN tupleD) (aCons (eLc [1] (bd1 1) (iRange1 (eProp [(14, 54)] G (eVar 0))) (tBl (eBin2 (ownIn [(14, 59)] G inD) (eVar 1) (eVar 0))) (eVar 1)) (aNil))) (aNil)))))
/-- 59: rules.__contains__, 2 parameters, 6 slots -/
def b_rules_Rule_contains_ (G : Nat → Fn) : SX :=
  sSeq (sAsgG (gTp (gsCons (gNm 2) (gsCons (gNm 3) (gsCons (gNm 4) (gsCons (gNm 5) (gsNil)))))) (eFld fnC [14] "numbers" (eVar 0)))
    (sSeq (sIf (tNt (tTru (eApp (G 10) (aCons (eVar 1) (aCons (eC (.int 0)) (aCons (eBin subD (eVar 2) (eC (.int 1))) (aNil))))))) (sRet (eC (.bl false))) (sNx))
    (sRet (eBin ltD (eBin addD (eBin mulD (eBin modD (eBin subD (eVar 1) (eVar 4)) (eVar 3)) (eBin fdivD (eVar 2) (eVar 3))) (eBin fdivD (eVar 1) (eVar 3))) (eVar 5))))
/-- 60: rules.__bool__, 1 parameters, 1 slots -/
def b_rules_Rule_bool_ (G : Nat → Fn) : SX :=
  sRet (eC (.bl true))
/-- 61: rules.__eq__, 2 parameters, 2 slots -/
def b_rules_Rule_eq_ (G : Nat → Fn) : SX :=
  sRet (eAnd (eUn2 (isiO [14] 14) (eVar 1)) (eBin eqD (eFld fnC [14] "numbers" (eVar 0)) (eApp mkTup (aCons (eProp [(14, 54)] G (eVar 1)) (aCons (eProp [(14, 55)] G (eVar 1)) (aCons (eProp [(14, 56)] G (eVar 1)) (aCons (eProp [(14, 57)] G (eVar 1)) (aNil))))))))
/-- 62: rules.__str__, 1 parameters, 2 slots -/
def b_rules_Rule_str_ (G : Nat → Fn) : SX :=
  sRet (eSt1 joinD (eC (.str " ")) (eLc [1] (bd1 1) (iSeq (eFld fnC [14] "numbers" (eVar 0))) (tYs) (eApp (opN strD) (aCons (eVar 1) (aNil)))))
/-- 63: rules.__repr__, 1 parameters, 1 slots -/
def b_rules_Rule_repr_ (G : Nat → Fn) : SX :=
  sRet (eFs [eC (.str "Rule "), eUn2 (ownFmt [(14, 62)] G) (eVar 0)])
/-- 64: clocks.least_divisor, 3 parameters, 5 slots -/
def b_clocks_least_divisor (G : Nat → Fn) : SX :=
  sSeq (sAsg 3 (eApp mkMut (aNil)))
    (sSeq (sFor (gNm 4) (iSeq (eApp (G 18) (aCons (eVar 0) (aNil)))) (sExp (eApnd (eVar 3) (eApp mkTup (aCons (eBin mulD (eBin subD (eBin addD (eApp (G 19) (aCons (eVar 1) (aCons (eVar 4) (aNil)))) (eApp (G 19) (aCons (eVar 2) (aCons (eVar 4) (aNil))))) (eC (.int 1))) (eVar 4)) (aCons (eVar 4) (aNil)))))))
    (sRet (eApp (opN minPrD) (aCons (eVar 3) (aNil)))))
/-- 65: clocks.fold_divisor, 3 parameters, 5 slots -/
def b_clocks_fold_divisor (G : Nat → Fn) : SX :=
  sSeq (sAsg 3 (eApp mkMut (aNil)))
    (sSeq (sFor (gNm 4) (iSeq (eApp (G 18) (aCons (eVar 0) (aNil)))) (sExp (eApnd (eVar 3) (eApp mkTup (aCons (eBin mulD (eBin addD (eBin subD (eBin mulD (eVar 2) (eApp (G 19) (aCons (eVar 1) (aCons (eVar 4) (aNil))))) (eVar 2)) (eC (.int 1))) (eVar 4)) (aCons (eVar 4) (aNil)))))))
    (sRet (eApp (opN minPrD) (aCons (eVar 3) (aNil)))))
/-- 66: clocks.reach_divisor, 2 parameters, 5 slots -/
def b_clocks_reach_divisor (G : Nat → Fn) : SX :=
  sSeq (sAsg 2 (eApp mkMut (aNil)))
    (sSeq (sFor (gNm 3) (iSeq (eApp (G 18) (aCons (eVar 0) (aNil)))) (sExp (eApnd (eVar 2) (eApp mkTup (aCons (eBin mulD (eUn negD (eVar 3)) (eApp (G 19) (aCons (eBin subD (eBin fdivD (eVar 0) (eVar 3)) (eC (.int 1))) (aCons (eVar 1) (aNil))))) (aCons (eVar 3) (aNil)))))))
    (sSeq (sAsgG (gTp (gsCons (gNm 4) (gsCons (gNm 3) (gsNil)))) (eApp (opN minPrD) (aCons (eVar 2) (aNil))))
    (sRet (eApp mkTup (aCons (eBin subD (eC (.int 1)) (eVar 4)) (aCons (eVar 3) (aNil)))))))
/-- 67: clocks.apart_divisor, 2 parameters, 5 slots -/
def b_clocks_apart_divisor (G : Nat → Fn) : SX :=
  sSeq (sAsg 2 (eApp mkMut (aNil)))
    (sSeq (sFor (gNm 3) (iSeq (eApp (G 18) (aCons (eVar 0) (aNil)))) (sExp (eApnd (eVar 2) (eApp mkTup (aCons (eBin mulD (eUn negD (eBin addD (eBin fdivD (eBin subD (eVar 3) (eC (.int 2))) (eBin addD (eBin mulD (eC (.int 2)) (eVar 1)) (eC (.int 1)))) (eC (.int 1)))) (eBin fdivD (eVar 0) (eVar 3))) (aCons (eVar 3) (aNil)))))))
    (sSeq (sAsgG (gTp (gsCons (gNm 4) (gsCons (gNm 3) (gsNil)))) (eApp (opN minPrD) (aCons (eVar 2) (aNil))))
    (sRet (eApp mkTup (aCons (eUn negD (eVar 4)) (aCons (eVar 3) (aNil)))))))
/-- 68: clocks.check_sizes, 3 parameters, 3 slots -/
def b_clocks_check_sizes (G : Nat → Fn) : SX :=
  sSeq (sExp (eApp (G 12) (aCons (eVar 0) (aCons (eC (.int 1000000000)) (aNil)))))
    (sSeq (sExp (eApp (G 13) (aCons (eVar 1) (aCons (eVar 0) (aNil)))))
    (sExp (eApp (G 13) (aCons (eVar 2) (aCons (eVar 0) (aNil))))))
/-- 69: clocks.check_fold, 3 parameters, 3 slots -/
def b_clocks_check_fold (G : Nat → Fn) : SX :=
  sSeq (sExp (eApp (G 12) (aCons (eVar 0) (aCons (eC (.int 1000000000)) (aNil)))))
    (sSeq (sExp (eApp (G 13) (aCons (eVar 1) (aCons (eVar 0) (aNil)))))
    (sExp (eApp (G 14) (aCons (eVar 2) (aCons (eC (.int 0)) (aNil))))))
/-- 70: clocks.check_asked, 2 parameters, 2 slots -/
def b_clocks_check_asked (G : Nat → Fn) : SX :=
  sSeq (sExp (eApp (G 12) (aCons (eVar 0) (aCons (eC (.int 1000000000)) (aNil)))))
    (sExp (eApp (G 14) (aCons (eVar 1) (aCons (eC (.int 1)) (aNil)))))
/-- 71: clocks.least_sums, 3 parameters, 3 slots -/
def b_clocks_least_sums (G : Nat → Fn) : SX :=
  sSeq (sExp (eApp (G 68) (aCons (eVar 0) (aCons (eVar 1) (aCons (eVar 2) (aNil))))))
    (sRet (eBin idxD (eApp (G 64) (aCons (eVar 0) (aCons (eVar 1) (aCons (eVar 2) (aNil))))) (eC (.int 0))))
/-- 72: clocks.least_pair, 3 parameters, 4 slots -/
def b_clocks_least_pair (G : Nat → Fn) : SX :=
  sSeq (sExp (eApp (G 68) (aCons (eVar 0) (aCons (eVar 1) (aCons (eVar 2) (aNil))))))
    (sSeq (sAsg 3 (eBin fdivD (eVar 0) (eBin idxD (eApp (G 64) (aCons (eVar 0) (aCons (eVar 1) (aCons (eVar 2) (aNil))))) (eC (.int 1)))))
    (sRet (eApp mkTup (aCons (eApp (mkX fnC 14 (G 53)) (aCons (eVar 0) (aCons (eVar 3) (aCons (eC (.int 0)) (aCons (eVar 1) (aNil)))))) (aCons (eApp (mkX fnC 14 (G 53)) (aCons (eVar 0) (aCons (eVar 3) (aCons (eC (.int 0)) (aCons (eVar 2) (aNil)))))) (aNil))))))
/-- 73: clocks.least_fold, 3 parameters, 3 slots -/
def b_clocks_least_fold (G : Nat → Fn) : SX :=
  sSeq (sExp (eApp (G 69) (aCons (eVar 0) (aCons (eVar 1) (aCons (eVar 2) (aNil))))))
    (sRet (eBin idxD (eApp (G 65) (aCons (eVar 0) (aCons (eVar 1) (aCons (eVar 2) (aNil))))) (eC (.int 0))))
/-- 74: clocks.fold_rule, 3 parameters, 3 slots -/
def b_clocks_fold_rule (G : Nat → Fn) : SX :=
  sSeq (sExp (eApp (G 69) (aCons (eVar 0) (aCons (eVar 1) (aCons (eVar 2) (aNil))))))
    (sRet (eApp (mkX fnC 14 (G 53)) (aCons (eVar 0) (aCons (eBin fdivD (eVar 0) (eBin idxD (eApp (G 65) (aCons (eVar 0) (aCons (eVar 1) (aCons (eVar 2) (aNil))))) (eC (.int 1)))) (aCons (eC (.int 0)) (aCons (eVar 1) (aNil)))))))
/-- 75: clocks.reach_size, 2 parameters, 2 slots -/
def b_clocks_reach_size (G : Nat → Fn) : SX :=
  sSeq (sExp (eApp (G 70) (aCons (eVar 0) (aCons (eVar 1) (aNil)))))
    (sRet (eBin idxD (eApp (G 66) (aCons (eVar 0) (aCons (eVar 1) (aNil)))) (eC (.int 0))))
/-- 76: clocks.reach_rule, 2 parameters, 4 slots -/
def b_clocks_reach_rule (G : Nat → Fn) : SX :=
  sSeq (sExp (eApp (G 70) (aCons (eVar 0) (aCons (eVar 1) (aNil)))))
    (sSeq (sAsgG (gTp (gsCons (gNm 2) (gsCons (gNm 3) (gsNil)))) (eApp (G 66) (aCons (eVar 0) (aCons (eVar 1) (aNil)))))
    (sRet (eApp (mkX fnC 14 (G 53)) (aCons (eVar 0) (aCons (eBin fdivD (eVar 0) (eVar 3)) (aCons (eC (.int 0)) (aCons (eBin subD (eVar 2) (eC (.int 1))) (aNil))))))))
/-- 77: clocks.apart_size, 2 parameters, 2 slots -/
def b_clocks_apart_size (G : Nat → Fn) : SX :=
  sSeq (sExp (eApp (G 70) (aCons (eVar 0) (aCons (eVar 1) (aNil)))))
    (sRet (eBin idxD (eApp (G 67) (aCons (eVar 0) (aCons (eVar 1) (aNil)))) (eC (.int 0))))
/-- 78: clocks.apart_rule, 2 parameters, 6 slots -/
def b_clocks_apart_rule (G : Nat → Fn) : SX :=
  sSeq (sExp (eApp (G 70) (aCons (eVar 0) (aCons (eVar 1) (aNil)))))
    (sSeq (sAsgG (gTp (gsCons (gNm 2) (gsCons (gNm 3) (gsNil)))) (eApp (G 67) (aCons (eVar 0) (aCons (eVar 1) (aNil)))))
    (sSeq (sAsg 4 (eBin addD (eBin fdivD (eBin subD (eVar 3) (eC (.int 2))) (eBin addD (eBin mulD (eC (.int 2)) (eVar 1)) (eC (.int 1)))) (eC (.int 1))))
    (sSeq (sAsg 5 (eIf (tBl (eBin gtD (eVar 0) (eC (.int 1)))) (eBin addD (eC (.int 1)) (eBin mulD (eVar 1) (eBin subD (eVar 4) (eC (.int 1))))) (eC (.int 0))))
    (sRet (eApp (mkX fnC 14 (G 53)) (aCons (eVar 0) (aCons (eVar 3) (aCons (eVar 5) (aCons (eVar 2) (aNil))))))))))
/-- 79: equations.check_two, 2 parameters, 2 slots -/
def b_equations_check_two (G : Nat → Fn) : SX :=
  sSeq (sExp (eApp (G 50) (aCons (eVar 0) (aNil))))
    (sExp (eApp (G 51) (aCons (eVar 0) (aCons (eVar 1) (aNil)))))
/-- 80: equations.greatest_of, 2 parameters, 6 slots -/
def b_equations_greatest_of (G : Nat → Fn) : SX :=
  sSeq (sPar2 2 3 (aCons (eDc [4] (bd1 4) (iSeq (eProp [(13, 28)] G (eVar 1))) (ac1 (eVar 4) (eC (.bl true)))) (aCons (eApp mkMut (aNil)) (aNil))))
    (sSeq (sFor (gNm 4) (iRange1 (eProp [(13, 27)] G (eVar 0))) (sIf (tTru (eApp (opN allD) (aCons (eLc [5] (bd1 5) (iSeq (eProp [(13, 28)] G (eVar 0))) (tYs) (eBin inKD (eBin modD (eBin addD (eVar 4) (eVar 5)) (eProp [(13, 27)] G (eVar 0))) (eVar 2))) (aNil)))) (sExp (eApnd (eVar 3) (eVar 4))) (sNx)))
    (sRet (eApp (opN tupleD) (aCons (eVar 3) (aNil)))))
/-- 81: equations.greatest, 2 parameters, 2 slots -/
def b_equations_greatest (G : Nat → Fn) : SX :=
  sSeq (sExp (eApp (G 79) (aCons (eVar 0) (aCons (eVar 1) (aNil)))))
    (sRet (eApp (mkX fnC 13 (G 24)) (aCons (eProp [(13, 27)] G (eVar 0)) (aCons (eApp (G 80) (aCons (eVar 0) (aCons (eVar 1) (aNil)))) (aNil)))))
/-- 82: equations.solvable, 2 parameters, 2 slots -/
def b_equations_solvable (G : Nat → Fn) : SX :=
  sSeq (sExp (eApp (G 79) (aCons (eVar 0) (aCons (eVar 1) (aNil)))))
    (sRet (eBin eqD (eApp (G 21) (aCons (eProp [(13, 27)] G (eVar 0)) (aCons (eProp [(13, 28)] G (eVar 0)) (aCons (eApp (G 80) (aCons (eVar 0) (aCons (eVar 1) (aNil)))) (aNil))))) (eProp [(13, 28)] G (eVar 1))))
/-- 83: equations.is_least, 3 parameters, 6 slots -/
def b_equations_is_least (G : Nat → Fn) : SX :=
  sSeq (sIf (tBl (eBin neD (eApp (G 21) (aCons (eProp [(13, 27)] G (eVar 0)) (aCons (eProp [(13, 28)] G (eVar 0)) (aCons (eVar 2) (aNil))))) (eProp [(13, 28)] G (eVar 1)))) (sRet (eC (.bl false))) (sNx))
    (sSeq (sAsg 3 (eLc [4] (bd1 4) (iRange1 (eApp (opN lenD) (aCons (eVar 2) (aNil)))) (tYs) (eBin addD (eSl (eVar 2) (oNo) (oSo (eVar 4))) (eSl (eVar 2) (oSo (eBin addD (eVar 4) (eC (.int 1)))) (oNo)))))
    (sRet (eApp (opN allD) (aCons (eLc [5] (bd1 5) (iSeq (eVar 3)) (tYs) (eBin neD (eApp (G 21) (aCons (eProp [(13, 27)] G (eVar 0)) (aCons (eProp [(13, 28)] G (eVar 0)) (aCons (eVar 5) (aNil))))) (eProp [(13, 28)] G (eVar 1)))) (aNil)))))
/-- 84: equations.least_solutions, 2 parameters, 5 slots -/
def b_equations_least_solutions (G : Nat → Fn) : SX :=
  sSeq (sExp (eApp (G 79) (aCons (eVar 0) (aCons (eVar 1) (aNil)))))
    (sSeq (sIf (tBl (eBin gtD (eProp [(13, 27)] G (eVar 0)) (eC (.int 14)))) (sRaise 9 (eProp [(13, 27)] G (eVar 0))) (sNx))
    (sSeq (sAsg 2 (eApp mkLst (aCons (eApp mkTup (aNil)) (aNil))))
    (sSeq (sFor (gNm 3) (iSeq (eApp (G 80) (aCons (eVar 0) (aCons (eVar 1) (aNil))))) (sAsg 2 (eBin addD (eVar 2) (eLc [4] (bd1 4) (iSeq (eVar 2)) (tYs) (eApp mkTup (aStar (eVar 4) (aCons (eVar 3) (aNil))))))))
    (sRet (eApp (opN tupleD) (aCons (eLc [4] (bd1 4) (iSeq (eApp (opN sortedTD) (aCons (eVar 2) (aNil)))) (tTru (eApp (G 83) (aCons (eVar 0) (aCons (eVar 1) (aCons (eVar 4) (aNil)))))) (eApp (mkX fnC 13 (G 24)) (aCons (eProp [(13, 27)] G (eVar 0)) (aCons (eVar 4) (aNil))))) (aNil)))))))
/-- 85: equations.tilings_of, 3 parameters, 9 slots -/
def b_equations_tilings_of (G : Nat → Fn) : SX :=
  sSeq (sAsg 3 (eLc [4] (bd1 4) (iRange1 (eProp [(13, 27)] G (eVar 0))) (tBl (eBin notinD (eVar 4) (eVar 1))) (eVar 4)))
    (sSeq (sIf (tBl (eBin eqD (eVar 3) (eApp mkLst (aNil)))) (sRet (eApp mkLst (aCons (eApp (opN tupleD) (aCons (eApp (opN sortedX) (aCons (eVar 2) (aNil))) (aNil))) (aNil)))) (sNx))
    (sSeq (sAsg 5 (eApp mkMut (aNil)))
    (sSeq (sFor (gNm 6) (iSeq (eProp [(13, 28)] G (eVar 0))) (sSeq (sAsg 7 (eBin modD (eBin subD (eBin idxD (eVar 3) (eC (.int 0))) (eVar 6)) (eProp [(13, 27)] G (eVar 0))))
    (sSeq (sAsg 8 (eApp (G 22) (aCons (eProp [(13, 27)] G (eVar 0)) (aCons (eProp [(13, 28)] G (eVar 0)) (aCons (eVar 7) (aNil))))))
    (sIf (tNt (tTru (eApp (opN anyD) (aCons (eLc [4] (bd1 4) (iSeq (eVar 8)) (tYs) (eBin inD (eVar 4) (eVar 1))) (aNil))))) (sExp (eExt (eVar 5) (eApp (G 85) (aCons (eVar 0) (aCons (eBin addD (eVar 1) (eVar 8)) (aCons (eApp mkTup (aStar (eVar 2) (aCons (eVar 7) (aNil)))) (aNil))))))) (sNx)))))
    (sRet (eVar 5)))))
/-- 86: equations.tilings, 1 parameters, 2 slots -/
def b_equations_tilings (G : Nat → Fn) : SX :=
  sSeq (sExp (eApp (G 50) (aCons (eVar 0) (aNil))))
    (sSeq (sIf (tBl (eBin gtD (eProp [(13, 27)] G (eVar 0)) (eC (.int 24)))) (sRaise 9 (eProp [(13, 27)] G (eVar 0))) (sNx))
    (sSeq (sIf (tOrr (tBl (eBin eqD (eProp [(13, 28)] G (eVar 0)) (eApp mkTup (aNil)))) (tBl (eBin neD (eBin modD (eProp [(13, 27)] G (eVar 0)) (eApp (one1 (ownLen [(13, 44)] G lenD)) (aCons (eVar 0) (aNil)))) (eC (.int 0))))) (sRet (eApp mkTup (aNil))) (sNx))
    (sRet (eApp (opN tupleD) (aCons (eLc [1] (bd1 1) (iSeq (eApp (opN sortedTD) (aCons (eApp (G 85) (aCons (eVar 0) (aCons (eProp [(13, 28)] G (eVar 0)) (aCons (eApp mkTup (aCons (eC (.int 0)) (aNil))) (aNil))))) (aNil)))) (tYs) (eApp (mkX fnC 13 (G 24)) (aCons (eProp [(13, 27)] G (eVar 0)) (aCons (eVar 1) (aNil))))) (aNil))))))
/-- 87: equations.slack, 2 parameters, 5 slots -/
def b_equations_slack (G : Nat → Fn) : SX :=
  sSeq (sExp (eApp (G 79) (aCons (eVar 0) (aCons (eVar 1) (aNil)))))
    (sSeq (sIf (tOrr (tBl (eBin eqD (eProp [(13, 28)] G (eVar 0)) (eApp mkTup (aNil)))) (tBl (eBin eqD (eProp [(13, 28)] G (eVar 1)) (eApp mkTup (aNil))))) (sRaise0 10) (sNx))
    (sSeq (sAsg 2 (eBin2 (own2 [(13, 36)] G addD) (eVar 0) (eVar 1)))
    (sSeq (sAsg 3 (eMth fnC "period" [(13, 29)] G (eVar 2) (aNil)))
    (sSeq (sAsg 4 (eApp (mkX fnC 13 (G 24)) (aCons (eProp [(13, 27)] G (eVar 0)) (aCons (eApp (opN tupRg3) (aCons (eC (.int 0)) (aCons (eProp [(13, 27)] G (eVar 0)) (aCons (eVar 3) (aNil))))) (aNil)))))
    (sRet (eBin addD (eBin subD (eBin subD (eApp (one1 (ownLen [(13, 44)] G lenD)) (aCons (eVar 2) (aNil))) (eApp (one1 (ownLen [(13, 44)] G lenD)) (aCons (eBin2 (own2 [(13, 36)] G addD) (eVar 0) (eVar 4)) (aNil)))) (eApp (one1 (ownLen [(13, 44)] G lenD)) (aCons (eBin2 (own2 [(13, 36)] G addD) (eVar 1) (eVar 4)) (aNil)))) (eApp (one1 (ownLen [(13, 44)] G lenD)) (aCons (eVar 4) (aNil)))))))))
/-- 88: dials.__init__, 2 parameters, 2 slots -/
def b_dials_Dial_init_ (G : Nat → Fn) : SX :=
  sSeq (sExp (eApp (G 12) (aCons (eVar 1) (aCons (eC (.int 240)) (aNil)))))
    (sSeq (sSetF [15] "held" (eVar 0) (eApp (mkX fnC 13 (G 24)) (aCons (eVar 1) (aCons (eApp mkTup (aCons (eC (.int 0)) (aNil))) (aNil)))))
    (sSeq (sSetF [15] "vows" (eVar 0) (eApp mkTup (aNil)))
    (sSetF [15] "log" (eVar 0) (eApp mkTup (aNil)))))
/-- 89: dials.clock, 1 parameters, 1 slots -/
def b_dials_Dial_clock (G : Nat → Fn) : SX :=
  sRet (eProp [(13, 27)] G (eFld fnC [15] "held" (eVar 0)))
/-- 90: dials.now, 1 parameters, 1 slots -/
def b_dials_Dial_now (G : Nat → Fn) : SX :=
  sRet (eFld fnC [15] "held" (eVar 0))
/-- 91: dials.promises, 1 parameters, 1 slots -/
def b_dials_Dial_promises (G : Nat → Fn) : SX :=
  sRet (eFld fnC [15] "vows" (eVar 0))
/-- 92: dials.changes, 1 parameters, 1 slots -/
def b_dials_Dial_changes (G : Nat → Fn) : SX :=
  sRet (eApp (opN lenD) (aCons (eFld fnC [15] "log" (eVar 0)) (aNil)))
/-- 93: dials.__len__, 1 parameters, 1 slots -/
def b_dials_Dial_len_ (G : Nat → Fn) : SX :=
  sRet (eApp (one1 (ownLen [(13, 44)] G lenD)) (aCons (eFld fnC [15] "held" (eVar 0)) (aNil)))
/-- 94: dials.__bool__, 1 parameters, 1 slots -/
def b_dials_Dial_bool_ (G : Nat → Fn) : SX :=
  sRet (eC (.bl true))
/-- 95: dials.change, 3 parameters, 5 slots -/
def b_dials_Dial_change (G : Nat → Fn) : SX :=
  sSeq (sFor (gTp (gsCons (gNm 3) (gsCons (gNm 4) (gsNil)))) (iEnumD (eVar 2)) (sIf (tBl (eBin2 (ownNe [(13, 46)] G neD) (eBin2 (own2 [(13, 39)] G noD2) (eVar 1) (eVar 4)) (eVar 1))) (sRaise 11 (eVar 3)) (sNx)))
    (sSeq (sSetF [15] "log" (eVar 0) (eApp mkTup (aStar (eFld fnC [15] "log" (eVar 0)) (aCons (eApp mkTup (aCons (eFld fnC [15] "held" (eVar 0)) (aCons (eFld fnC [15] "vows" (eVar 0)) (aNil)))) (aNil)))))
    (sAsgG (gTp (gsCons (gAt [15] "held" (eVar 0)) (gsCons (gAt [15] "vows" (eVar 0)) (gsNil)))) (eApp mkTup (aCons (eVar 1) (aCons (eVar 2) (aNil))))))
/-- 96: dials.add, 2 parameters, 2 slots -/
def b_dials_Dial_add (G : Nat → Fn) : SX :=
  sSeq (sExp (eApp (G 51) (aCons (eFld fnC [15] "held" (eVar 0)) (aCons (eVar 1) (aNil)))))
    (sExp (eMth fnC "change" [(15, 95)] G (eVar 0) (aCons (eBin2 (own2 [(13, 36)] G addD) (eFld fnC [15] "held" (eVar 0)) (eVar 1)) (aCons (eFld fnC [15] "vows" (eVar 0)) (aNil)))))
/-- 97: dials.keep, 2 parameters, 2 slots -/
def b_dials_Dial_keep (G : Nat → Fn) : SX :=
  sSeq (sExp (eApp (G 51) (aCons (eFld fnC [15] "held" (eVar 0)) (aCons (eVar 1) (aNil)))))
    (sExp (eMth fnC "change" [(15, 95)] G (eVar 0) (aCons (eBin2 (own2 [(13, 39)] G noD2) (eFld fnC [15] "held" (eVar 0)) (eVar 1)) (aCons (eFld fnC [15] "vows" (eVar 0)) (aNil)))))
/-- 98: dials.move, 2 parameters, 2 slots -/
def b_dials_Dial_move (G : Nat → Fn) : SX :=
  sSeq (sExp (eApp (G 11) (aCons (eVar 1) (aNil))))
    (sExp (eMth fnC "change" [(15, 95)] G (eVar 0) (aCons (eMth fnC "moved" [(13, 32)] G (eFld fnC [15] "held" (eVar 0)) (aCons (eVar 1) (aNil))) (aCons (eFld fnC [15] "vows" (eVar 0)) (aNil)))))
/-- 99: dials.promise, 2 parameters, 2 slots -/
def b_dials_Dial_promise (G : Nat → Fn) : SX :=
  sSeq (sExp (eApp (G 51) (aCons (eFld fnC [15] "held" (eVar 0)) (aCons (eVar 1) (aNil)))))
    (sExp (eMth fnC "change" [(15, 95)] G (eVar 0) (aCons (eFld fnC [15] "held" (eVar 0)) (aCons (eApp mkTup (aStar (eFld fnC [15] "vows" (eVar 0)) (aCons (eVar 1) (aNil)))) (aNil)))))
/-- 100: dials.lift, 2 parameters, 2 slots -/
def b_dials_Dial_lift (G : Nat → Fn) : SX :=
  sSeq (sIf (tNt (tTru (eApp (G 10) (aCons (eVar 1) (aCons (eC (.int 0)) (aCons (eBin subD (eApp (opN lenD) (aCons (eFld fnC [15] "vows" (eVar 0)) (aNil))) (eC (.int 1))) (aNil))))))) (sRaise 5 (eVar 1)) (sNx))
    (sExp (eMth fnC "change" [(15, 95)] G (eVar 0) (aCons (eFld fnC [15] "held" (eVar 0)) (aCons (eBin addD (eSl (eFld fnC [15] "vows" (eVar 0)) (oNo) (oSo (eVar 1))) (eSl (eFld fnC [15] "vows" (eVar 0)) (oSo (eBin addD (eVar 1) (eC (.int 1)))) (oNo))) (aNil)))))
/-- 101: dials.undo, 1 parameters, 1 slots -/
def b_dials_Dial_undo (G : Nat → Fn) : SX :=
  sSeq (sIf (tBl (eBin eqE (eFld fnC [15] "log" (eVar 0)) (eApp mkTup (aNil)))) (sRaise0 12) (sNx))
    (sSeq (sAsgG (gTp (gsCons (gAt [15] "held" (eVar 0)) (gsCons (gAt [15] "vows" (eVar 0)) (gsNil)))) (eBin idxD (eFld fnC [15] "log" (eVar 0)) (eUn negD (eC (.int 1)))))
    (sSetF [15] "log" (eVar 0) (eSl (eFld fnC [15] "log" (eVar 0)) (oNo) (oSo (eUn negD (eC (.int 1)))))))
/-- 102: dials.attempt, 1 parameters, 1 slots -/
def b_dials_Dial_attempt (G : Nat → Fn) : SX :=
  sRet (eApp (mkMX 16 (G 104)) (aCons (eVar 0) (aNil)))
/-- 105: dials.__enter__, 1 parameters, 1 slots -/
def b_dials_Attempt_enter_ (G : Nat → Fn) : SX :=
  sSeq (sAsgG (gTp (gsCons (gAt [16] "held" (eVar 0)) (gsCons (gAt [16] "vows" (eVar 0)) (gsCons (gAt [16] "log" (eVar 0)) (gsNil))))) (eApp mkTup (aCons (eFld fnC [15] "held" (eFld fnC [16] "dial" (eVar 0))) (aCons (eFld fnC [15] "vows" (eFld fnC [16] "dial" (eVar 0))) (aCons (eFld fnC [15] "log" (eFld fnC [16] "dial" (eVar 0))) (aNil))))))
    (sRet (eFld fnC [16] "dial" (eVar 0)))
/-- 106: dials.__exit__, 4 parameters, 4 slots -/
def b_dials_Attempt_exit_ (G : Nat → Fn) : SX :=
  sIf (tBl (eBin isnotD (eVar 1) (eC .non))) (sSeq (sSetF [16] "held" (eFld fnC [16] "dial" (eVar 0)) (eFld fnC [16] "held" (eVar 0)))
    (sSeq (sSetF [16] "vows" (eFld fnC [16] "dial" (eVar 0)) (eFld fnC [16] "vows" (eVar 0)))
    (sSetF [16] "log" (eFld fnC [16] "dial" (eVar 0)) (eFld fnC [16] "log" (eVar 0))))) (sNx)
/-- 107: checker.is_integer, 1 parameters, 1 slots -/
def b_checker_is_integer (G : Nat → Fn) : SX :=
  sRet (eAnd (eUn (isiD "int") (eVar 0)) (eNot (eUn (isiD "bool") (eVar 0))))
/-- 108: checker.is_number, 3 parameters, 3 slots -/
def b_checker_is_number (G : Nat → Fn) : SX :=
  sRet (eAnd (eApp (G 107) (aCons (eVar 0) (aNil))) (eChain leD leD (eVar 1) (eVar 0) (eVar 2)))
/-- 109: checker.accepts, 2 parameters, 4 slots -/
def b_checker_accepts (G : Nat → Fn) : SX :=
  sSeq (sIf (tOrr (tNt (tTru (eUn (isiD "tuple") (eVar 0)))) (tOrr (tBl (eBin eqD (eApp (opN lenD) (aCons (eVar 0) (aNil))) (eC (.int 0)))) (tNt (tTru (eUn (isiD "str") (eBin idxD (eVar 0) (eC (.int 0)))))))) (sRet (eC (.bl false))) (sNx))
    (sSeq (sPar2 2 3 (aCons (eBin idxD (eVar 0) (eC (.int 0))) (aCons (eSl (eVar 0) (oSo (eC (.int 1))) (oNo)) (aNil))))
    (sSeq (sIf (tBl (eBin neD (eBin (kgetD [(("least" : Str), (5 : Int)), (("fold" : Str), (5 : Int)), (("reach" : Str), (4 : Int)), (("apart" : Str), (4 : Int)), (("sums" : Str), (4 : Int)), (("reached" : Str), (4 : Int)), (("never" : Str), (3 : Int)), (("within" : Str), (4 : Int)), (("unsolved" : Str), (3 : Int)), (("tiling" : Str), (3 : Int))]) (eVar 2) (eC (.int 0))) (eApp (opN lenD) (aCons (eVar 0) (aNil))))) (sRet (eC (.bl false))) (sNx))
    (sSeq (sIf (tBl (eBin inD (eVar 2) (eApp mkTup (aCons (eC (.str "least")) (aCons (eC (.str "fold")) (aCons (eC (.str "reach")) (aCons (eC (.str "apart")) (aNil)))))))) (sRet (eAnd (eApp (G 110) (aCons (eVar 2) (aCons (eVar 3) (aNil)))) (eApp (G 113) (aCons (eVar 2) (aCons (eVar 3) (aCons (eVar 1) (aNil))))))) (sNx))
    (sSeq (sIf (tBl (eBin inD (eVar 2) (eApp mkTup (aCons (eC (.str "reached")) (aCons (eC (.str "never")) (aNil)))))) (sRet (eApp (G 119) (aCons (eVar 2) (aCons (eVar 3) (aCons (eVar 1) (aNil)))))) (sNx))
    (sRet (eApp (G 120) (aCons (eVar 2) (aCons (eVar 3) (aCons (eVar 1) (aNil))))))))))
/-- 110: checker.are_sizes, 2 parameters, 3 slots -/
def b_checker_are_sizes (G : Nat → Fn) : SX :=
  sSeq (sAsg 2 (eBin idxD (eVar 1) (eC (.int 0))))
    (sSeq (sIf (tOrr (tNt (tTru (eApp (G 108) (aCons (eVar 2) (aCons (eC (.int 1)) (aCons (eC (.int 1000000000)) (aNil))))))) (tNt (tTru (eApp (G 107) (aCons (eBin idxD (eVar 1) (eUn negD (eC (.int 1)))) (aNil)))))) (sRet (eC (.bl false))) (sNx))
    (sSeq (sIf (tBl (eBin eqD (eVar 0) (eC (.str "least")))) (sRet (eAnd (eApp (G 108) (aCons (eBin idxD (eVar 1) (eC (.int 1))) (aCons (eC (.int 1)) (aCons (eVar 2) (aNil))))) (eApp (G 108) (aCons (eBin idxD (eVar 1) (eC (.int 2))) (aCons (eC (.int 1)) (aCons (eVar 2) (aNil))))))) (sNx))
    (sSeq (sIf (tBl (eBin eqD (eVar 0) (eC (.str "fold")))) (sRet (eAnd (eApp (G 108) (aCons (eBin idxD (eVar 1) (eC (.int 1))) (aCons (eC (.int 1)) (aCons (eVar 2) (aNil))))) (eApp (G 108) (aCons (eBin idxD (eVar 1) (eC (.int 2))) (aCons (eC (.int 0)) (aCons (eC (.int 1000000000000000000000000000000)) (aNil))))))) (sNx))
    (sRet (eApp (G 108) (aCons (eBin idxD (eVar 1) (eC (.int 1))) (aCons (eC (.int 1)) (aCons (eC (.int 1000000000000000000000000000000)) (aNil)))))))))
/-- 111: checker.divided_up, 2 parameters, 2 slots -/
def b_checker_divided_up (G : Nat → Fn) : SX :=
  sRet (eBin fdivD (eBin subD (eBin addD (eVar 0) (eVar 1)) (eC (.int 1))) (eVar 1))
/-- 112: checker.number_at, 3 parameters, 4 slots -/
def b_checker_number_at (G : Nat → Fn) : SX :=
  sSeq (sIf (tBl (eBin eqD (eVar 0) (eC (.str "least")))) (sRet (eBin mulD (eBin subD (eBin addD (eApp (G 111) (aCons (eBin idxD (eVar 1) (eC (.int 1))) (aCons (eVar 2) (aNil)))) (eApp (G 111) (aCons (eBin idxD (eVar 1) (eC (.int 2))) (aCons (eVar 2) (aNil))))) (eC (.int 1))) (eVar 2))) (sNx))
    (sSeq (sIf (tBl (eBin eqD (eVar 0) (eC (.str "fold")))) (sRet (eBin mulD (eBin addD (eBin mulD (eBin idxD (eVar 1) (eC (.int 2))) (eBin subD (eApp (G 111) (aCons (eBin idxD (eVar 1) (eC (.int 1))) (aCons (eVar 2) (aNil)))) (eC (.int 1)))) (eC (.int 1))) (eVar 2))) (sNx))
    (sSeq (sAsg 3 (eBin fdivD (eBin idxD (eVar 1) (eC (.int 0))) (eVar 2)))
    (sSeq (sIf (tBl (eBin eqD (eVar 0) (eC (.str "reach")))) (sRet (eBin mulD (eApp (G 111) (aCons (eBin subD (eVar 3) (eC (.int 1))) (aCons (eBin idxD (eVar 1) (eC (.int 1))) (aNil)))) (eVar 2))) (sNx))
    (sRet (eBin mulD (eBin addD (eBin fdivD (eBin subD (eVar 2) (eC (.int 2))) (eBin addD (eBin mulD (eC (.int 2)) (eBin idxD (eVar 1) (eC (.int 1)))) (eC (.int 1)))) (eC (.int 1))) (eVar 3))))))
/-- 113: checker.is_told, 3 parameters, 9 slots -/
def b_checker_is_told (G : Nat → Fn) : SX :=
  sSeq (sPar2 3 4 (aCons (eBin idxD (eVar 1) (eC (.int 0))) (aCons (eBin idxD (eVar 1) (eUn negD (eC (.int 1)))) (aNil))))
    (sSeq (sIf (tOrr (tNt (tTru (eApp (G 108) (aCons (eVar 2) (aCons (eC (.int 1)) (aCons (eVar 3) (aNil))))))) (tBl (eBin neD (eBin modD (eVar 3) (eVar 2)) (eC (.int 0))))) (sRet (eC (.bl false))) (sNx))
    (sSeq (sAsg 5 (eApp (G 112) (aCons (eVar 0) (aCons (eVar 1) (aCons (eVar 2) (aNil))))))
    (sSeq (sIf (tBl (eBin neD (eVar 4) (eIf (tBl (eBin eqD (eVar 0) (eC (.str "reach")))) (eBin addD (eVar 5) (eC (.int 1))) (eVar 5)))) (sRet (eC (.bl false))) (sNx))
    (sSeq (sAsg 6 (eC (.int 1)))
    (sSeq (sWhile (tBl (eBin leD (eBin mulD (eVar 6) (eVar 6)) (eVar 3))) (sSeq (sIf (tBl (eBin eqD (eBin modD (eVar 3) (eVar 6)) (eC (.int 0)))) (sFor (gNm 7) (iSeq (eApp mkTup (aCons (eVar 6) (aCons (eBin fdivD (eVar 3) (eVar 6)) (aNil))))) (sSeq (sAsg 8 (eApp (G 112) (aCons (eVar 0) (aCons (eVar 1) (aCons (eVar 7) (aNil))))))
    (sIf (tIfx (tBl (eBin inD (eVar 0) (eApp mkTup (aCons (eC (.str "least")) (aCons (eC (.str "fold")) (aNil)))))) (tBl (eBin ltD (eVar 8) (eVar 5))) (tBl (eBin gtD (eVar 8) (eVar 5)))) (sRet (eC (.bl false))) (sNx)))) (sNx))
    (sAsg 6 (eBin addD (eVar 6) (eC (.int 1))))))
    (sRet (eC (.bl true))))))))
/-- 114: checker.number_of, 1 parameters, 2 slots -/
def b_checker_number_of (G : Nat → Fn) : SX :=
  sSeq (sIf (tOrr (tNt (tBl (eChain leD leD (eC (.int 1)) (eApp (opN lenD) (aCons (eVar 0) (aNil))) (eC (.int 3))))) (tNt (tTru (eApp (opN allD) (aCons (eLc [1] (bd1 1) (iSeq (eVar 0)) (tYs) (eBin inD (eVar 1) (eC (.str "0123456789")))) (aNil)))))) (sRet (eC .non)) (sNx))
    (sRet (eIf (tOrr (tBl (eBin eqD (eVar 0) (eC (.str "0")))) (tBl (eBin neD (eBin idxD (eVar 0) (eC (.int 0))) (eC (.str "0"))))) (eApp (opN intSD) (aCons (eVar 0) (aNil))) (eC .non)))
/-- 115: checker.set_of, 1 parameters, 8 slots -/
def b_checker_set_of (G : Nat → Fn) : SX :=
  sSeq (sIf (tNt (tTru (eUn (isiD "str") (eVar 0)))) (sRet (eC .non)) (sNx))
    (sSeq (sAsgG (gTp (gsCons (gNm 1) (gsCons (gNm 2) (gsCons (gNm 3) (gsNil))))) (eSt1 partD (eVar 0) (eC (.str ":"))))
    (sSeq (sAsg 4 (eApp (G 114) (aCons (eVar 1) (aNil))))
    (sSeq (sIf (tOrr (tBl (eBin eqD (eVar 2) (eC (.str "")))) (tOrr (tBl (eBin isD (eVar 4) (eC .non))) (tOrr (tNt (tBl (eChain leD leD (eC (.int 1)) (eVar 4) (eC (.int 240))))) (tBl (eBin notinD (eSlS (eVar 3) (oNo) (oSo (eC (.int 1)))) (eApp mkTup (aCons (eC (.str "")) (aCons (eC (.str " ")) (aNil))))))))) (sRet (eC .non)) (sNx))
    (sSeq (sAsg 5 (eApp mkMut (aNil)))
    (sSeq (sFor (gNm 6) (iSeq (eSl (eSt1 splitD (eVar 3) (eC (.str " "))) (oSo (eC (.int 1))) (oNo))) (sSeq (sAsg 7 (eApp (G 114) (aCons (eVar 6) (aNil))))
    (sSeq (sIf (tOrr (tBl (eBin isD (eVar 7) (eC .non))) (tOrr (tBl (eBin geD (eVar 7) (eVar 4))) (tAn (tBl (eBin neD (eVar 5) (eApp mkLst (aNil)))) (tBl (eBin leD (eVar 7) (eBin idxD (eVar 5) (eUn negD (eC (.int 1))))))))) (sRet (eC .non)) (sNx))
    (sExp (eApnd (eVar 5) (eVar 7))))))
    (sRet (eApp mkTup (aCons (eVar 4) (aCons (eApp (opN tupleD) (aCons (eVar 5) (aNil))) (aNil))))))))))
/-- 116: checker.sums_of, 3 parameters, 5 slots -/
def b_checker_sums_of (G : Nat → Fn) : SX :=
  sRet (eDc [3, 4] (bd1 3) (iSeq (eVar 1)) (ac2 [4] (bd1 4) (iSeq (eVar 2)) (ac1 (eBin modD (eBin addD (eVar 3) (eVar 4)) (eVar 0)) (eC (.bl true)))))
/-- 117: checker.fewest_of, 3 parameters, 7 slots -/
def b_checker_fewest_of (G : Nat → Fn) : SX :=
  sSeq (sPar2 3 4 (aCons (eMutC (.dct [.inl 0] [.int 0])) (aCons (eApp mkLst (aCons (eC (.int 0)) (aNil))) (aNil))))
    (sSeq (sWhile (tAn (tBl (eBin neD (eVar 4) (eApp mkLst (aNil)))) (tBl (eBin notinKD (eVar 2) (eVar 3)))) (sSeq (sAsg 5 (eLc [6] (bd1 6) (iKeyM (eApp (G 116) (aCons (eVar 0) (aCons (eVar 4) (aCons (eVar 1) (aNil)))))) (tBl (eBin notinKD (eVar 6) (eVar 3))) (eVar 6)))
    (sSeq (sFor (gNm 6) (iSeq (eVar 5)) (sPut (eVar 3) (eVar 6) (eBin addD (eBin idxKD (eVar 3) (eBin idxD (eVar 4) (eC (.int 0)))) (eC (.int 1)))))
    (sAsg 4 (eVar 5)))))
    (sRet (eGetK (eVar 3) (eVar 2))))
/-- 118: checker.is_rising_row, 2 parameters, 4 slots -/
def b_checker_is_rising_row (G : Nat → Fn) : SX :=
  sSeq (sFor (gTp (gsCons (gNm 2) (gsCons (gNm 3) (gsNil)))) (iEnumD (eVar 0)) (sIf (tOrr (tNt (tTru (eApp (G 107) (aCons (eVar 3) (aNil))))) (tOrr (tBl (eBin notinD (eVar 3) (eVar 1))) (tAn (tBl (eBin gtD (eVar 2) (eC (.int 0)))) (tBl (eBin ltD (eVar 3) (eBin idxD (eVar 0) (eBin subD (eVar 2) (eC (.int 1))))))))) (sRet (eC (.bl false))) (sNx)))
    (sRet (eC (.bl true)))
/-- 119: checker.is_about_hour, 3 parameters, 8 slots -/
def b_checker_is_about_hour (G : Nat → Fn) : SX :=
  sSeq (sPar2 3 4 (aCons (eApp (G 115) (aCons (eBin idxD (eVar 1) (eC (.int 0))) (aNil))) (aCons (eBin idxD (eVar 1) (eC (.int 1))) (aNil))))
    (sSeq (sIf (tOrr (tBl (eBin isD (eVar 3) (eC .non))) (tNt (tTru (eApp (G 108) (aCons (eVar 4) (aCons (eC (.int 0)) (aCons (eBin subD (eBin idxD (eVar 3) (eC (.int 0))) (eC (.int 1))) (aNil)))))))) (sRet (eC (.bl false))) (sNx))
    (sSeq (sAsgG (gTp (gsCons (gNm 5) (gsCons (gNm 6) (gsNil)))) (eVar 3))
    (sSeq (sIf (tBl (eBin eqD (eVar 0) (eC (.str "never")))) (sSeq (sIf (tOrr (tNt (tTru (eApp (G 108) (aCons (eVar 2) (aCons (eC (.int 1)) (aCons (eVar 5) (aNil))))))) (tOrr (tBl (eBin neD (eBin modD (eVar 5) (eVar 2)) (eC (.int 0)))) (tBl (eBin eqD (eBin modD (eVar 4) (eVar 2)) (eC (.int 0)))))) (sRet (eC (.bl false))) (sNx))
    (sRet (eApp (opN allD) (aCons (eLc [7] (bd1 7) (iSeq (eVar 6)) (tYs) (eBin eqD (eBin modD (eVar 7) (eVar 2)) (eC (.int 0)))) (aNil))))) (sNx))
    (sSeq (sIf (tOrr (tNt (tTru (eUn (isiD "tuple") (eVar 2)))) (tNt (tTru (eApp (G 108) (aCons (eBin idxD (eVar 1) (eC (.int 2))) (aCons (eApp (opN lenD) (aCons (eVar 2) (aNil))) (aCons (eApp (opN lenD) (aCons (eVar 2) (aNil))) (aNil)))))))) (sRet (eC (.bl false))) (sNx))
    (sSeq (sIf (tOrr (tNt (tTru (eApp (G 118) (aCons (eVar 2) (aCons (eVar 6) (aNil)))))) (tBl (eBin neD (eBin modD (eApp (opN sumX) (aCons (eVar 2) (aNil))) (eVar 5)) (eVar 4)))) (sRet (eC (.bl false))) (sNx))
    (sRet (eBin eqD (eApp (G 117) (aCons (eVar 5) (aCons (eVar 6) (aCons (eVar 4) (aNil))))) (eApp (opN lenD) (aCons (eVar 2) (aNil))))))))))
/-- 120: checker.is_about_sets, 3 parameters, 9 slots -/
def b_checker_is_about_sets (G : Nat → Fn) : SX :=
  sSeq (sAsg 3 (eLc [4] (bd1 4) (iSeq (eVar 1)) (tYs) (eApp (G 115) (aCons (eVar 4) (aNil)))))
    (sSeq (sIf (tOrr (tBl (eBin inD (eC .non) (eVar 3))) (tBl (eBin gtD (eLenSc [5] (bd1 5) (iSeq (eVar 3)) (eBin idxD (eVar 5) (eC (.int 0)))) (eC (.int 1))))) (sRet (eC (.bl false))) (sNx))
    (sSeq (sPar2 6 7 (aCons (eBin idxD (eBin idxD (eVar 3) (eC (.int 0))) (eC (.int 0))) (aCons (eLc [5] (bd1 5) (iSeq (eVar 3)) (tYs) (eBin idxD (eVar 5) (eC (.int 1)))) (aNil))))
    (sSeq (sIf (tBl (eBin eqD (eVar 0) (eC (.str "sums")))) (sRet (eAnd (eBin isD (eVar 2) (eC .non)) (eBin eqD (eApp (opN tupleD) (aCons (eApp (opN sortedKD) (aCons (eApp (G 116) (aCons (eVar 6) (aCons (eBin idxD (eVar 7) (eC (.int 0))) (aCons (eBin idxD (eVar 7) (eC (.int 1))) (aNil))))) (aNil))) (aNil))) (eBin idxD (eVar 7) (eC (.int 2)))))) (sNx))
    (sSeq (sIf (tBl (eBin eqD (eVar 0) (eC (.str "tiling")))) (sSeq (sAsg 8 (eChain eqD eqD (eBin mulD (eApp (opN lenD) (aCons (eBin idxD (eVar 7) (eC (.int 0))) (aNil))) (eApp (opN lenD) (aCons (eBin idxD (eVar 7) (eC (.int 1))) (aNil)))) (eVar 6) (eApp (opN lenKD) (aCons (eApp (G 116) (aCons (eVar 6) (aCons (eBin idxD (eVar 7) (eC (.int 0))) (aCons (eBin idxD (eVar 7) (eC (.int 1))) (aNil))))) (aNil)))))
    (sRet (eAnd (eBin isD (eVar 2) (eC .non)) (eAnd (eVar 8) (eBin inD (eC (.int 0)) (eBin idxD (eVar 7) (eC (.int 1)))))))) (sNx))
    (sSeq (sIf (tBl (eBin eqD (eVar 0) (eC (.str "within")))) (sRet (eApp (G 122) (aCons (eVar 6) (aCons (eVar 7) (aCons (eVar 2) (aNil)))))) (sNx))
    (sRet (eApp (G 123) (aCons (eVar 6) (aCons (eVar 7) (aCons (eVar 2) (aNil)))))))))))
/-- 121: checker.is_outside, 4 parameters, 4 slots -/
def b_checker_is_outside (G : Nat → Fn) : SX :=
  sRet (eAnd (eApp (G 107) (aCons (eVar 3) (aNil))) (eAnd (eBin inD (eVar 3) (eBin idxD (eVar 1) (eC (.int 0)))) (eBin notinD (eBin modD (eBin addD (eVar 2) (eVar 3)) (eVar 0)) (eBin idxD (eVar 1) (eC (.int 1))))))
/-- 122: checker.is_greatest, 3 parameters, 7 slots -/
def b_checker_is_greatest (G : Nat → Fn) : SX :=
  sSeq (sIf (tTru (eApp (opN anyD) (aCons (eLc [3] (bd1 3) (iKeyM (eApp (G 116) (aCons (eVar 0) (aCons (eBin idxD (eVar 1) (eC (.int 0))) (aCons (eBin idxD (eVar 1) (eC (.int 2))) (aNil)))))) (tYs) (eBin notinD (eVar 3) (eBin idxD (eVar 1) (eC (.int 1))))) (aNil)))) (sRet (eC (.bl false))) (sNx))
    (sSeq (sAsg 4 (eLc [5] (bd1 5) (iRange1 (eVar 0)) (tBl (eBin notinD (eVar 5) (eBin idxD (eVar 1) (eC (.int 2))))) (eVar 5)))
    (sSeq (sIf (tOrr (tNt (tTru (eUn (isiD "tuple") (eVar 2)))) (tBl (eBin neD (eApp (opN lenD) (aCons (eVar 2) (aNil))) (eApp (opN lenD) (aCons (eVar 4) (aNil)))))) (sRet (eC (.bl false))) (sNx))
    (sRet (eApp (opN allD) (aCons (eLc [5, 6] (bd2 5 6) (iZipD (eVar 4) (eVar 2)) (tYs) (eApp (G 121) (aCons (eVar 0) (aCons (eVar 1) (aCons (eVar 5) (aCons (eVar 6) (aNil))))))) (aNil))))))
/-- 123: checker.is_unsolved, 3 parameters, 7 slots -/
def b_checker_is_unsolved (G : Nat → Fn) : SX :=
  sSeq (sIf (tOrr (tNt (tTru (eUn (isiD "tuple") (eVar 2)))) (tBl (eBin neD (eApp (opN lenD) (aCons (eVar 2) (aNil))) (eC (.int 2))))) (sRet (eC (.bl false))) (sNx))
    (sSeq (sAsgG (gTp (gsCons (gNm 3) (gsCons (gNm 4) (gsNil)))) (eVar 2))
    (sSeq (sIf (tOrr (tNt (tTru (eApp (G 107) (aCons (eVar 3) (aNil))))) (tOrr (tBl (eBin notinD (eVar 3) (eBin idxD (eVar 1) (eC (.int 1))))) (tOrr (tNt (tTru (eUn (isiD "tuple") (eVar 4)))) (tBl (eBin neD (eApp (opN lenD) (aCons (eVar 4) (aNil))) (eApp (opN lenD) (aCons (eBin idxD (eVar 1) (eC (.int 0))) (aNil)))))))) (sRet (eC (.bl false))) (sNx))
    (sRet (eApp (opN allD) (aCons (eLc [5, 6] (bd2 5 6) (iZipD (eBin idxD (eVar 1) (eC (.int 0))) (eVar 4)) (tYs) (eApp (G 121) (aCons (eVar 0) (aCons (eVar 1) (aCons (eBin subD (eVar 3) (eVar 5)) (aCons (eVar 6) (aNil))))))) (aNil))))))
/-- 124: certificates.certify_least, 3 parameters, 5 slots -/
def b_certificates_certify_least (G : Nat → Fn) : SX :=
  sSeq (sExp (eApp (G 68) (aCons (eVar 0) (aCons (eVar 1) (aCons (eVar 2) (aNil))))))
    (sSeq (sAsgG (gTp (gsCons (gNm 3) (gsCons (gNm 4) (gsNil)))) (eApp (G 64) (aCons (eVar 0) (aCons (eVar 1) (aCons (eVar 2) (aNil))))))
    (sRet (eApp mkTup (aCons (eApp mkTup (aCons (eC (.str "least")) (aCons (eVar 0) (aCons (eVar 1) (aCons (eVar 2) (aCons (eVar 3) (aNil))))))) (aCons (eVar 4) (aNil))))))
/-- 125: certificates.certify_fold, 3 parameters, 5 slots -/
def b_certificates_certify_fold (G : Nat → Fn) : SX :=
  sSeq (sExp (eApp (G 69) (aCons (eVar 0) (aCons (eVar 1) (aCons (eVar 2) (aNil))))))
    (sSeq (sAsgG (gTp (gsCons (gNm 3) (gsCons (gNm 4) (gsNil)))) (eApp (G 65) (aCons (eVar 0) (aCons (eVar 1) (aCons (eVar 2) (aNil))))))
    (sRet (eApp mkTup (aCons (eApp mkTup (aCons (eC (.str "fold")) (aCons (eVar 0) (aCons (eVar 1) (aCons (eVar 2) (aCons (eVar 3) (aNil))))))) (aCons (eVar 4) (aNil))))))
/-- 126: certificates.certify_reach, 2 parameters, 4 slots -/
def b_certificates_certify_reach (G : Nat → Fn) : SX :=
  sSeq (sExp (eApp (G 70) (aCons (eVar 0) (aCons (eVar 1) (aNil)))))
    (sSeq (sAsgG (gTp (gsCons (gNm 2) (gsCons (gNm 3) (gsNil)))) (eApp (G 66) (aCons (eVar 0) (aCons (eVar 1) (aNil)))))
    (sRet (eApp mkTup (aCons (eApp mkTup (aCons (eC (.str "reach")) (aCons (eVar 0) (aCons (eVar 1) (aCons (eVar 2) (aNil)))))) (aCons (eVar 3) (aNil))))))
/-- 127: certificates.certify_apart, 2 parameters, 4 slots -/
def b_certificates_certify_apart (G : Nat → Fn) : SX :=
  sSeq (sExp (eApp (G 70) (aCons (eVar 0) (aCons (eVar 1) (aNil)))))
    (sSeq (sAsgG (gTp (gsCons (gNm 2) (gsCons (gNm 3) (gsNil)))) (eApp (G 67) (aCons (eVar 0) (aCons (eVar 1) (aNil)))))
    (sRet (eApp mkTup (aCons (eApp mkTup (aCons (eC (.str "apart")) (aCons (eVar 0) (aCons (eVar 1) (aCons (eVar 2) (aNil)))))) (aCons (eVar 3) (aNil))))))
/-- 128: certificates.certify_sums, 2 parameters, 2 slots -/
def b_certificates_certify_sums (G : Nat → Fn) : SX :=
  sSeq (sExp (eApp (G 79) (aCons (eVar 0) (aCons (eVar 1) (aNil)))))
    (sRet (eApp mkTup (aCons (eApp mkTup (aCons (eC (.str "sums")) (aCons (eApp (one1 (ownStr [(13, 47)] G strD)) (aCons (eVar 0) (aNil))) (aCons (eApp (one1 (ownStr [(13, 47)] G strD)) (aCons (eVar 1) (aNil))) (aCons (eApp (one1 (ownStr [(13, 47)] G strD)) (aCons (eBin2 (own2 [(13, 36)] G addD) (eVar 0) (eVar 1)) (aNil))) (aNil)))))) (aCons (eC .non) (aNil)))))
/-- 129: certificates.certify_hour, 2 parameters, 5 slots -/
def b_certificates_certify_hour (G : Nat → Fn) : SX :=
  sSeq (sExp (eApp (G 50) (aCons (eVar 0) (aNil))))
    (sSeq (sAsg 2 (eMth fnC "row" [(13, 35)] G (eVar 0) (aCons (eVar 1) (aNil))))
    (sSeq (sIf (tBl (eBin isnotD (eVar 2) (eC .non))) (sRet (eApp mkTup (aCons (eApp mkTup (aCons (eC (.str "reached")) (aCons (eApp (one1 (ownStr [(13, 47)] G strD)) (aCons (eVar 0) (aNil))) (aCons (eVar 1) (aCons (eApp (opN lenD) (aCons (eVar 2) (aNil))) (aNil)))))) (aCons (eVar 2) (aNil))))) (sNx))
    (sSeq (sAsg 3 (eProp [(13, 27)] G (eVar 0)))
    (sSeq (sFor (gNm 4) (iSeq (eProp [(13, 28)] G (eVar 0))) (sAsg 3 (eApp (G 17) (aCons (eVar 3) (aCons (eVar 4) (aNil))))))
    (sRet (eApp mkTup (aCons (eApp mkTup (aCons (eC (.str "never")) (aCons (eApp (one1 (ownStr [(13, 47)] G strD)) (aCons (eVar 0) (aNil))) (aCons (eVar 1) (aNil))))) (aCons (eVar 3) (aNil)))))))))
/-- 130: certificates.outside, 3 parameters, 4 slots -/
def b_certificates_outside (G : Nat → Fn) : SX :=
  sSeq (sFor (gNm 3) (iSeq (eProp [(13, 28)] G (eVar 0))) (sIf (tBl (eBin2 (ownNi [(13, 43)] G notinD) (eBin modD (eBin addD (eVar 2) (eVar 3)) (eProp [(13, 27)] G (eVar 0))) (eVar 1))) (sRet (eVar 3)) (sNx)))
    (sRet (eC .non))
/-- 131: certificates.certify_greatest, 2 parameters, 5 slots -/
def b_certificates_certify_greatest (G : Nat → Fn) : SX :=
  sSeq (sAsg 2 (eApp (G 81) (aCons (eVar 0) (aCons (eVar 1) (aNil)))))
    (sSeq (sAsg 3 (eApp (opN tupleD) (aCons (eLc [4] (bd1 4) (iSeq (eProp [(13, 28)] G (eUn2 (own1 [(13, 40)] G noD1) (eVar 2)))) (tYs) (eApp (G 130) (aCons (eVar 0) (aCons (eVar 1) (aCons (eVar 4) (aNil)))))) (aNil))))
    (sRet (eApp mkTup (aCons (eApp mkTup (aCons (eC (.str "within")) (aCons (eApp (one1 (ownStr [(13, 47)] G strD)) (aCons (eVar 0) (aNil))) (aCons (eApp (one1 (ownStr [(13, 47)] G strD)) (aCons (eVar 1) (aNil))) (aCons (eApp (one1 (ownStr [(13, 47)] G strD)) (aCons (eVar 2) (aNil))) (aNil)))))) (aCons (eVar 3) (aNil))))))
/-- 132: certificates.certify_unsolved, 2 parameters, 6 slots -/
def b_certificates_certify_unsolved (G : Nat → Fn) : SX :=
  sSeq (sIf (tTru (eApp (G 82) (aCons (eVar 0) (aCons (eVar 1) (aNil))))) (sRet (eC .non)) (sNx))
    (sSeq (sAsg 2 (eBin2 (own2 [(13, 36)] G addD) (eVar 0) (eApp (G 81) (aCons (eVar 0) (aCons (eVar 1) (aNil))))))
    (sSeq (sAsg 3 (eBin idxD (eLc [3] (bd1 3) (iSeq (eProp [(13, 28)] G (eVar 1))) (tBl (eBin2 (ownNi [(13, 43)] G notinD) (eVar 3) (eVar 2))) (eVar 3)) (eC (.int 0))))
    (sSeq (sAsg 4 (eApp (opN tupleD) (aCons (eLc [5] (bd1 5) (iSeq (eProp [(13, 28)] G (eVar 0))) (tYs) (eApp (G 130) (aCons (eVar 0) (aCons (eVar 1) (aCons (eBin subD (eVar 3) (eVar 5)) (aNil)))))) (aNil))))
    (sRet (eApp mkTup (aCons (eApp mkTup (aCons (eC (.str "unsolved")) (aCons (eApp (one1 (ownStr [(13, 47)] G strD)) (aCons (eVar 0) (aNil))) (aCons (eApp (one1 (ownStr [(13, 47)] G strD)) (aCons (eVar 1) (aNil))) (aNil))))) (aCons (eApp mkTup (aCons (eVar 3) (aCons (eVar 4) (aNil)))) (aNil))))))))
/-- 133: certificates.certify_tilings, 1 parameters, 2 slots -/
def b_certificates_certify_tilings (G : Nat → Fn) : SX :=
  sRet (eApp (opN tupleD) (aCons (eLc [1] (bd1 1) (iSeq (eApp (G 86) (aCons (eVar 0) (aNil)))) (tYs) (eApp mkTup (aCons (eApp mkTup (aCons (eC (.str "tiling")) (aCons (eApp (one1 (ownStr [(13, 47)] G strD)) (aCons (eVar 0) (aNil))) (aCons (eApp (one1 (ownStr [(13, 47)] G strD)) (aCons (eVar 1) (aNil))) (aNil))))) (aCons (eC .non) (aNil))))) (aNil)))
def ptabL : List (Nat × Body) := [(9, (true, 1, 1, b_values_is_integer)), (10, (true, 3, 3, b_values_is_between)), (11, (true, 1, 1, b_values_check_integer)), (12, (true, 2, 2, b_values_check_clock)), (13, (true, 2, 2, b_values_check_size)), (14, (true, 2, 2, b_values_check_times)), (15, (true, 2, 2, b_values_check_hour)), (16, (true, 1, 2, b_values_number_of)), (17, (true, 2, 2, b_values_greatest_divisor)), (18, (true, 1, 4, b_values_divisors_of)), (19, (true, 2, 2, b_values_divided_up)), (20, (true, 2, 4, b_hours_wrong_hour)), (21, (true, 3, 6, b_hours_summed)), (22, (true, 3, 4, b_hours_moved_by)), (23, (true, 3, 6, b_hours_grown)), (24, (true, 3, 4, b_hours_Hours_init_)), (25, (true, 2, 3, b_hours_Hours_read)), (26, (true, 2, 2, b_hours_Hours_whole)), (27, (true, 1, 1, b_hours_Hours_clock)), (28, (true, 1, 1, b_hours_Hours_hours)), (29, (true, 1, 2, b_hours_Hours_period)), (30, (true, 1, 1, b_hours_Hours_onset)), (31, (true, 1, 3, b_hours_Hours_span)), (32, (true, 2, 2, b_hours_Hours_moved)), (33, (true, 2, 4, b_hours_Hours_fold)), (34, (true, 2, 2, b_hours_Hours_fewest)), (35, (true, 2, 6, b_hours_Hours_row)), (36, (true, 2, 2, b_hours_Hours_add_)), (37, (true, 2, 2, b_hours_Hours_sub_)), (38, (true, 2, 3, b_hours_Hours_or_)), (39, (true, 2, 3, b_hours_Hours_and_)), (40, (true, 1, 2, b_hours_Hours_invert_)), (41, (true, 1, 1, b_hours_Hours_neg_)), (42, (true, 2, 4, b_hours_Hours_mul_)), (43, (true, 2, 2, b_hours_Hours_contains_)), (44, (true, 1, 1, b_hours_Hours_len_)), (45, (true, 1, 1, b_hours_Hours_bool_)), (46, (true, 2, 2, b_hours_Hours_eq_)), (47, (true, 1, 2, b_hours_Hours_str_)), (48, (true, 1, 1, b_hours_Hours_repr_)), (49, (false, 2, 7, b_hours_counted)), (50, (true, 1, 1, b_hours_check_hours)), (51, (true, 2, 2, b_hours_check_same)), (52, (true, 1, 7, b_hours_hours_with)), (53, (true, 5, 5, b_rules_Rule_init_)), (54, (true, 1, 1, b_rules_Rule_clock)), (55, (true, 1, 1, b_rules_Rule_step)), (56, (true, 1, 1, b_rules_Rule_first)), (57, (true, 1, 1, b_rules_Rule_size)), (58, (true, 1, 2, b_rules_Rule_listed)), (59, (true, 2, 6, b_rules_Rule_contains_)), (60, (true, 1, 1, b_rules_Rule_bool_)), (61, (true, 2, 2, b_rules_Rule_eq_)), (62, (true, 1, 2, b_rules_Rule_str_)), (63, (true, 1, 1, b_rules_Rule_repr_)), (64, (true, 3, 5, b_clocks_least_divisor)), (65, (true, 3, 5, b_clocks_fold_divisor)), (66, (true, 2, 5, b_clocks_reach_divisor)), (67, (true, 2, 5, b_clocks_apart_divisor)), (68, (true, 3, 3, b_clocks_check_sizes)), (69, (true, 3, 3, b_clocks_check_fold)), (70, (true, 2, 2, b_clocks_check_asked)), (71, (true, 3, 3, b_clocks_least_sums)), (72, (true, 3, 4, b_clocks_least_pair)), (73, (true, 3, 3, b_clocks_least_fold)), (74, (true, 3, 3, b_clocks_fold_rule)), (75, (true, 2, 2, b_clocks_reach_size)), (76, (true, 2, 4, b_clocks_reach_rule)), (77, (true, 2, 2, b_clocks_apart_size)), (78, (true, 2, 6, b_clocks_apart_rule)), (79, (true, 2, 2, b_equations_check_two)), (80, (true, 2, 6, b_equations_greatest_of)), (81, (true, 2, 2, b_equations_greatest)), (82, (true, 2, 2, b_equations_solvable)), (83, (true, 3, 6, b_equations_is_least)), (84, (true, 2, 5, b_equations_least_solutions)), (85, (true, 3, 9, b_equations_tilings_of)), (86, (true, 1, 2, b_equations_tilings)), (87, (true, 2, 5, b_equations_slack)), (88, (true, 2, 2, b_dials_Dial_init_)), (89, (true, 1, 1, b_dials_Dial_clock)), (90, (true, 1, 1, b_dials_Dial_now)), (91, (true, 1, 1, b_dials_Dial_promises)), (92, (true, 1, 1, b_dials_Dial_changes)), (93, (true, 1, 1, b_dials_Dial_len_)), (94, (true, 1, 1, b_dials_Dial_bool_)), (95, (true, 3, 5, b_dials_Dial_change)), (96, (true, 2, 2, b_dials_Dial_add)), (97, (true, 2, 2, b_dials_Dial_keep)), (98, (true, 2, 2, b_dials_Dial_move)), (99, (true, 2, 2, b_dials_Dial_promise)), (100, (true, 2, 2, b_dials_Dial_lift)), (101, (true, 1, 1, b_dials_Dial_undo)), (102, (true, 1, 1, b_dials_Dial_attempt)), (105, (true, 1, 1, b_dials_Attempt_enter_)), (106, (true, 4, 4, b_dials_Attempt_exit_)), (107, (true, 1, 1, b_checker_is_integer)), (108, (true, 3, 3, b_checker_is_number)), (109, (true, 2, 4, b_checker_accepts)), (110, (true, 2, 3, b_checker_are_sizes)), (111, (true, 2, 2, b_checker_divided_up)), (112, (true, 3, 4, b_checker_number_at)), (113, (true, 3, 9, b_checker_is_told)), (114, (true, 1, 2, b_checker_number_of)), (115, (true, 1, 8, b_checker_set_of)), (116, (false, 3, 5, b_checker_sums_of)), (117, (true, 3, 7, b_checker_fewest_of)), (118, (true, 2, 4, b_checker_is_rising_row)), (119, (true, 3, 8, b_checker_is_about_hour)), (120, (true, 3, 9, b_checker_is_about_sets)), (121, (true, 4, 4, b_checker_is_outside)), (122, (true, 3, 7, b_checker_is_greatest)), (123, (true, 3, 7, b_checker_is_unsolved)), (124, (true, 3, 5, b_certificates_certify_least)), (125, (true, 3, 5, b_certificates_certify_fold)), (126, (true, 2, 4, b_certificates_certify_reach)), (127, (true, 2, 4, b_certificates_certify_apart)), (128, (true, 2, 2, b_certificates_certify_sums)), (129, (true, 2, 5, b_certificates_certify_hour)), (130, (true, 3, 4, b_certificates_outside)), (131, (true, 2, 5, b_certificates_certify_greatest)), (132, (true, 2, 6, b_certificates_certify_unsolved)), (133, (true, 1, 2, b_certificates_certify_tilings))]
/-- the table holds the program -/
structure TP (tab : Nat → Option Body) : Prop where
  p9 : tab 9 = some (true, 1, 1, b_values_is_integer)
  p10 : tab 10 = some (true, 3, 3, b_values_is_between)
  p11 : tab 11 = some (true, 1, 1, b_values_check_integer)
  p12 : tab 12 = some (true, 2, 2, b_values_check_clock)
  p13 : tab 13 = some (true, 2, 2, b_values_check_size)
  p14 : tab 14 = some (true, 2, 2, b_values_check_times)
  p15 : tab 15 = some (true, 2, 2, b_values_check_hour)
  p16 : tab 16 = some (true, 1, 2, b_values_number_of)
  p17 : tab 17 = some (true, 2, 2, b_values_greatest_divisor)
  p18 : tab 18 = some (true, 1, 4, b_values_divisors_of)
  p19 : tab 19 = some (true, 2, 2, b_values_divided_up)
  p20 : tab 20 = some (true, 2, 4, b_hours_wrong_hour)
  p21 : tab 21 = some (true, 3, 6, b_hours_summed)
  p22 : tab 22 = some (true, 3, 4, b_hours_moved_by)
  p23 : tab 23 = some (true, 3, 6, b_hours_grown)
  p24 : tab 24 = some (true, 3, 4, b_hours_Hours_init_)
  p25 : tab 25 = some (true, 2, 3, b_hours_Hours_read)
  p26 : tab 26 = some (true, 2, 2, b_hours_Hours_whole)
  p27 : tab 27 = some (true, 1, 1, b_hours_Hours_clock)
  p28 : tab 28 = some (true, 1, 1, b_hours_Hours_hours)
  p29 : tab 29 = some (true, 1, 2, b_hours_Hours_period)
  p30 : tab 30 = some (true, 1, 1, b_hours_Hours_onset)
  p31 : tab 31 = some (true, 1, 3, b_hours_Hours_span)
  p32 : tab 32 = some (true, 2, 2, b_hours_Hours_moved)
  p33 : tab 33 = some (true, 2, 4, b_hours_Hours_fold)
  p34 : tab 34 = some (true, 2, 2, b_hours_Hours_fewest)
  p35 : tab 35 = some (true, 2, 6, b_hours_Hours_row)
  p36 : tab 36 = some (true, 2, 2, b_hours_Hours_add_)
  p37 : tab 37 = some (true, 2, 2, b_hours_Hours_sub_)
  p38 : tab 38 = some (true, 2, 3, b_hours_Hours_or_)
  p39 : tab 39 = some (true, 2, 3, b_hours_Hours_and_)
  p40 : tab 40 = some (true, 1, 2, b_hours_Hours_invert_)
  p41 : tab 41 = some (true, 1, 1, b_hours_Hours_neg_)
  p42 : tab 42 = some (true, 2, 4, b_hours_Hours_mul_)
  p43 : tab 43 = some (true, 2, 2, b_hours_Hours_contains_)
  p44 : tab 44 = some (true, 1, 1, b_hours_Hours_len_)
  p45 : tab 45 = some (true, 1, 1, b_hours_Hours_bool_)
  p46 : tab 46 = some (true, 2, 2, b_hours_Hours_eq_)
  p47 : tab 47 = some (true, 1, 2, b_hours_Hours_str_)
  p48 : tab 48 = some (true, 1, 1, b_hours_Hours_repr_)
  p49 : tab 49 = some (false, 2, 7, b_hours_counted)
  p50 : tab 50 = some (true, 1, 1, b_hours_check_hours)
  p51 : tab 51 = some (true, 2, 2, b_hours_check_same)
  p52 : tab 52 = some (true, 1, 7, b_hours_hours_with)
  p53 : tab 53 = some (true, 5, 5, b_rules_Rule_init_)
  p54 : tab 54 = some (true, 1, 1, b_rules_Rule_clock)
  p55 : tab 55 = some (true, 1, 1, b_rules_Rule_step)
  p56 : tab 56 = some (true, 1, 1, b_rules_Rule_first)
  p57 : tab 57 = some (true, 1, 1, b_rules_Rule_size)
  p58 : tab 58 = some (true, 1, 2, b_rules_Rule_listed)
  p59 : tab 59 = some (true, 2, 6, b_rules_Rule_contains_)
  p60 : tab 60 = some (true, 1, 1, b_rules_Rule_bool_)
  p61 : tab 61 = some (true, 2, 2, b_rules_Rule_eq_)
  p62 : tab 62 = some (true, 1, 2, b_rules_Rule_str_)
  p63 : tab 63 = some (true, 1, 1, b_rules_Rule_repr_)
  p64 : tab 64 = some (true, 3, 5, b_clocks_least_divisor)
  p65 : tab 65 = some (true, 3, 5, b_clocks_fold_divisor)
  p66 : tab 66 = some (true, 2, 5, b_clocks_reach_divisor)
  p67 : tab 67 = some (true, 2, 5, b_clocks_apart_divisor)
  p68 : tab 68 = some (true, 3, 3, b_clocks_check_sizes)
  p69 : tab 69 = some (true, 3, 3, b_clocks_check_fold)
  p70 : tab 70 = some (true, 2, 2, b_clocks_check_asked)
  p71 : tab 71 = some (true, 3, 3, b_clocks_least_sums)
  p72 : tab 72 = some (true, 3, 4, b_clocks_least_pair)
  p73 : tab 73 = some (true, 3, 3, b_clocks_least_fold)
  p74 : tab 74 = some (true, 3, 3, b_clocks_fold_rule)
  p75 : tab 75 = some (true, 2, 2, b_clocks_reach_size)
  p76 : tab 76 = some (true, 2, 4, b_clocks_reach_rule)
  p77 : tab 77 = some (true, 2, 2, b_clocks_apart_size)
  p78 : tab 78 = some (true, 2, 6, b_clocks_apart_rule)
  p79 : tab 79 = some (true, 2, 2, b_equations_check_two)
  p80 : tab 80 = some (true, 2, 6, b_equations_greatest_of)
  p81 : tab 81 = some (true, 2, 2, b_equations_greatest)
  p82 : tab 82 = some (true, 2, 2, b_equations_solvable)
  p83 : tab 83 = some (true, 3, 6, b_equations_is_least)
  p84 : tab 84 = some (true, 2, 5, b_equations_least_solutions)
  p85 : tab 85 = some (true, 3, 9, b_equations_tilings_of)
  p86 : tab 86 = some (true, 1, 2, b_equations_tilings)
  p87 : tab 87 = some (true, 2, 5, b_equations_slack)
  p88 : tab 88 = some (true, 2, 2, b_dials_Dial_init_)
  p89 : tab 89 = some (true, 1, 1, b_dials_Dial_clock)
  p90 : tab 90 = some (true, 1, 1, b_dials_Dial_now)
  p91 : tab 91 = some (true, 1, 1, b_dials_Dial_promises)
  p92 : tab 92 = some (true, 1, 1, b_dials_Dial_changes)
  p93 : tab 93 = some (true, 1, 1, b_dials_Dial_len_)
  p94 : tab 94 = some (true, 1, 1, b_dials_Dial_bool_)
  p95 : tab 95 = some (true, 3, 5, b_dials_Dial_change)
  p96 : tab 96 = some (true, 2, 2, b_dials_Dial_add)
  p97 : tab 97 = some (true, 2, 2, b_dials_Dial_keep)
  p98 : tab 98 = some (true, 2, 2, b_dials_Dial_move)
  p99 : tab 99 = some (true, 2, 2, b_dials_Dial_promise)
  p100 : tab 100 = some (true, 2, 2, b_dials_Dial_lift)
  p101 : tab 101 = some (true, 1, 1, b_dials_Dial_undo)
  p102 : tab 102 = some (true, 1, 1, b_dials_Dial_attempt)
  p105 : tab 105 = some (true, 1, 1, b_dials_Attempt_enter_)
  p106 : tab 106 = some (true, 4, 4, b_dials_Attempt_exit_)
  p107 : tab 107 = some (true, 1, 1, b_checker_is_integer)
  p108 : tab 108 = some (true, 3, 3, b_checker_is_number)
  p109 : tab 109 = some (true, 2, 4, b_checker_accepts)
  p110 : tab 110 = some (true, 2, 3, b_checker_are_sizes)
  p111 : tab 111 = some (true, 2, 2, b_checker_divided_up)
  p112 : tab 112 = some (true, 3, 4, b_checker_number_at)
  p113 : tab 113 = some (true, 3, 9, b_checker_is_told)
  p114 : tab 114 = some (true, 1, 2, b_checker_number_of)
  p115 : tab 115 = some (true, 1, 8, b_checker_set_of)
  p116 : tab 116 = some (false, 3, 5, b_checker_sums_of)
  p117 : tab 117 = some (true, 3, 7, b_checker_fewest_of)
  p118 : tab 118 = some (true, 2, 4, b_checker_is_rising_row)
  p119 : tab 119 = some (true, 3, 8, b_checker_is_about_hour)
  p120 : tab 120 = some (true, 3, 9, b_checker_is_about_sets)
  p121 : tab 121 = some (true, 4, 4, b_checker_is_outside)
  p122 : tab 122 = some (true, 3, 7, b_checker_is_greatest)
  p123 : tab 123 = some (true, 3, 7, b_checker_is_unsolved)
  p124 : tab 124 = some (true, 3, 5, b_certificates_certify_least)
  p125 : tab 125 = some (true, 3, 5, b_certificates_certify_fold)
  p126 : tab 126 = some (true, 2, 4, b_certificates_certify_reach)
  p127 : tab 127 = some (true, 2, 4, b_certificates_certify_apart)
  p128 : tab 128 = some (true, 2, 2, b_certificates_certify_sums)
  p129 : tab 129 = some (true, 2, 5, b_certificates_certify_hour)
  p130 : tab 130 = some (true, 3, 4, b_certificates_outside)
  p131 : tab 131 = some (true, 2, 5, b_certificates_certify_greatest)
  p132 : tab 132 = some (true, 2, 6, b_certificates_certify_unsolved)
  p133 : tab 133 = some (true, 1, 2, b_certificates_certify_tilings)
end Mi
namespace Mi
open PySem PySem.Spec PyProof.Rows L2
def hS (n : Int) (row : List Int) : PD := .ins 13 [.int n, .tup (row.map .int)]
def rS (a b c d : Int) : PD := .ins 14 [.tup [.int a, .int b, .int c, .int d]]
def fldC (fn : Nat → List Str) (cs : List Nat) (f : Str) (x : VL) (M : MH) : Option VL := match clsX M x with
  | some c => if cs.contains c = true then fldX fn f M x else none
  | none => none
def propC (tb : List (Nat × Nat)) (G : Nat → Fn) (x : VL) (M : MH) : Option (Rs VL) := match clsX M x with
  | some c => (match tb.lookup c with
    | some i => okR (G i [x] M)
    | none => none)
  | none => none
def mthC (fn : Nat → List Str) (m : Str) (tb : List (Nat × Nat)) (x : VL) (M : MH) : Option Nat := match clsX M x with
  | some c => (match tb.lookup c with
    | some i => if bareX fn m M x = true then some i else none
    | none => none)
  | none => none
section
variable {Q : VL → MH → Prop} {E : EW} {M : MH} {ρ : EV}
@[simp] theorem wpo_okR {r : Option (Rs VL)} : wpo (okR r) Q E ↔ wpo r Q noE := by
  cases r with
  | none => exact Iff.rfl
  | some z => cases z <;> exact Iff.rfl
@[simp] theorem wpo_notR {r : Option (Rs VL)} : wpo (notR r) Q E ↔ wpo r (fun x M1 => isBl x fun b => Q (.d (.bl (!b))) M1) noE := by
  cases r with
  | none => exact Iff.rfl
  | some z =>
    cases z with
    | ex _ _ _ => exact Iff.rfl
    | ok x M1 =>
      cases x with
      | r _ => exact Iff.rfl
      | d d => cases d <;> exact Iff.rfl
@[simp] theorem wpo_blR {r : Option (Rs VL)} : wpo (blR r) Q E ↔ wpo r (fun x M1 => isBl x fun b => Q (.d (.bl b)) M1) noE := by
  cases r with
  | none => exact Iff.rfl
  | some z =>
    cases z with
    | ex _ _ _ => exact Iff.rfl
    | ok x M1 =>
      cases x with
      | r _ => exact Iff.rfl
      | d d => cases d <;> exact Iff.rfl
@[simp] theorem wpo_lenR {r : Option (Rs VL)} : wpo (lenR r) Q E ↔ wpo r (fun x M1 => isIn x fun n => (0 ≤ n ∧ n < 2 ^ 63) ∧ Q (.d (.int n)) M1) noE := by
  cases r with
  | none => exact Iff.rfl
  | some z =>
    cases z with
    | ex _ _ _ => exact Iff.rfl
    | ok x M1 =>
      cases x with
      | r _ => exact Iff.rfl
      | d d =>
        cases d with
        | int n =>
          show wpo (if 0 ≤ n ∧ n < 2 ^ 63 then some (.ok (.d (.int n)) M1) else none) Q E ↔ (0 ≤ n ∧ n < 2 ^ 63) ∧ Q (.d (.int n)) M1
          by_cases h : 0 ≤ n ∧ n < 2 ^ 63
          · rw [if_pos h]; exact ⟨fun q => ⟨h, q⟩, fun q => q.2⟩
          · rw [if_neg h]; exact ⟨fun q => q.elim, fun q => h q.1⟩
        | _ => exact Iff.rfl
def isSr (x : VL) (Q : Str → Prop) : Prop := match x with
  | .d (.str b) => Q b
  | _ => False
@[simp] theorem isSr_d {b : Str} {Q : Str → Prop} : isSr (.d (.str b)) Q ↔ Q b := Iff.rfl
@[simp] theorem wpo_strR {r : Option (Rs VL)} : wpo (strR r) Q E ↔ wpo r (fun x M1 => isSr x fun b => Q (.d (.str b)) M1) noE := by
  cases r with
  | none => exact Iff.rfl
  | some z =>
    cases z with
    | ex _ _ _ => exact Iff.rfl
    | ok x M1 =>
      cases x with
      | r _ => exact Iff.rfl
      | d d => cases d <;> exact Iff.rfl
@[simp] theorem wpo_fld {fn : Nat → List Str} {cs : List Nat} {f : Str} {g : EX} : wpo (eFld fn cs f g ρ M) Q E ↔ wpo (g ρ M) (fun x M1 => wpD (fldC fn cs f x M1) fun y => Q y M1) E := by
  unfold eFld fldC; rw [wpo_bnd]
  constructor <;> intro h <;> refine wpo_mono h fun x M1 h => ?_
  · cases h1 : clsX M1 x with
    | none => rw [h1] at h; exact h.elim
    | some c =>
      rw [h1] at h
      dsimp only at h ⊢
      by_cases h2 : cs.contains c = true
      · rw [if_pos h2] at h ⊢
        cases h3 : fldX fn f M1 x with
        | none => rw [h3] at h; exact h.elim
        | some y => rw [h3] at h; exact h
      · rw [if_neg h2] at h; exact h.elim
  · cases h1 : clsX M1 x with
    | none => rw [h1] at h; exact h.elim
    | some c =>
      rw [h1] at h
      dsimp only at h ⊢
      by_cases h2 : cs.contains c = true
      · rw [if_pos h2] at h ⊢
        cases h3 : fldX fn f M1 x with
        | none => rw [h3] at h; exact h.elim
        | some y => rw [h3] at h; exact h
      · rw [if_neg h2] at h; exact h.elim
@[simp] theorem wpo_prop {tb : List (Nat × Nat)} {G : Nat → Fn} {g : EX} : wpo (eProp tb G g ρ M) Q E ↔ wpo (g ρ M) (fun x M1 => wpo (propC tb G x M1) Q E) E := by
  unfold eProp propC; rw [wpo_bnd]
  have key : ∀ x M1, wpo (match clsX M1 x with
      | some c => (match tb.lookup c with
        | some i => (match G i [x] M1 with
          | some (.ok y M2) => some (.ok y M2)
          | _ => none)
        | none => none)
      | none => none) Q E ↔ wpo (match clsX M1 x with
      | some c => (match tb.lookup c with
        | some i => okR (G i [x] M1)
        | none => none)
      | none => none) Q E := fun x M1 => by
    cases clsX M1 x with
    | none => exact Iff.rfl
    | some c =>
      dsimp only
      cases tb.lookup c with
      | none => exact Iff.rfl
      | some i =>
        dsimp only
        cases G i [x] M1 with
        | none => exact Iff.rfl
        | some z => cases z <;> exact Iff.rfl
  constructor <;> intro h <;> refine wpo_mono h fun x M1 h => ?_
  · exact (key x M1).mp h
  · exact (key x M1).mpr h
@[simp] theorem wpo_mth {fn : Nat → List Str} {m : Str} {tb : List (Nat × Nat)} {G : Nat → Fn} {g : EX} {gs : AX} : wpo (eMth fn m tb G g gs ρ M) Q E ↔ wpo (g ρ M) (fun x M1 => wpD (mthC fn m tb x M1) fun i => wpo (gs ρ M1) (fun xs M2 => wpo (G i (x :: xs) M2) Q E) E) E := by
  unfold eMth mthC; rw [wpo_bnd]
  constructor <;> intro h <;> refine wpo_mono h fun x M1 h => ?_
  · cases h1 : clsX M1 x with
    | none => rw [h1] at h; exact h.elim
    | some c =>
      rw [h1] at h
      dsimp only at h ⊢
      cases h2 : tb.lookup c with
      | none => rw [h2] at h; exact h.elim
      | some i =>
        rw [h2] at h
        dsimp only at h ⊢
        by_cases h3 : bareX fn m M1 x = true
        · rw [if_pos h3] at h ⊢
          exact wpo_bnd.mp h
        · rw [if_neg h3] at h; exact h.elim
  · cases h1 : clsX M1 x with
    | none => rw [h1] at h; exact h.elim
    | some c =>
      rw [h1] at h
      dsimp only at h ⊢
      cases h2 : tb.lookup c with
      | none => rw [h2] at h; exact h.elim
      | some i =>
        rw [h2] at h
        dsimp only at h ⊢
        by_cases h3 : bareX fn m M1 x = true
        · rw [if_pos h3] at h ⊢
          exact wpo_bnd.mpr h
        · rw [if_neg h3] at h; exact h.elim
@[simp] theorem wpo_mthK {fn : Nat → List Str} {m : Str} {tb : List (Nat × Nat)} {idx : List Nat} {nk : Nat} {G : Nat → Fn} {g : EX} {gk : AX} : wpo (eMthK fn m tb idx nk G g gk ρ M) Q E ↔ wpo (g ρ M) (fun x M1 => wpD (mthC fn m tb x M1) fun i => wpo (gk ρ M1) (fun zs M2 => zs.length = nk ∧ wpo (G i (permL idx (x :: zs)) M2) Q E) E) E := by
  unfold eMthK mthC; rw [wpo_bnd]
  constructor <;> intro h <;> refine wpo_mono h fun x M1 h => ?_
  · cases h1 : clsX M1 x with
    | none => rw [h1] at h; exact h.elim
    | some c =>
      rw [h1] at h
      dsimp only at h ⊢
      cases h2 : tb.lookup c with
      | none => rw [h2] at h; exact h.elim
      | some i =>
        rw [h2] at h
        dsimp only at h ⊢
        by_cases h3 : bareX fn m M1 x = true
        · rw [if_pos h3] at h ⊢
          rw [wpo_bnd] at h
          refine wpo_mono h fun zs M2 h => ?_
          by_cases h4 : zs.length = nk
          · rw [if_pos h4] at h; exact ⟨h4, h⟩
          · rw [if_neg h4] at h; exact h.elim
        · rw [if_neg h3] at h; exact h.elim
  · cases h1 : clsX M1 x with
    | none => rw [h1] at h; exact h.elim
    | some c =>
      rw [h1] at h
      dsimp only at h ⊢
      cases h2 : tb.lookup c with
      | none => rw [h2] at h; exact h.elim
      | some i =>
        rw [h2] at h
        dsimp only at h ⊢
        by_cases h3 : bareX fn m M1 x = true
        · rw [if_pos h3] at h ⊢
          rw [wpo_bnd]
          refine wpo_mono h fun zs M2 h => ?_
          rw [if_pos h.1]; exact h.2
        · rw [if_neg h3] at h; exact h.elim
@[simp] theorem wpo_un2 {g2 : VL → MH → Option (Rs VL)} {g : EX} : wpo (eUn2 g2 g ρ M) Q E ↔ wpo (g ρ M) (fun x M1 => wpo (g2 x M1) Q E) E := wpo_bnd
@[simp] theorem wpo_bin2 {g2 : VL → VL → MH → Option (Rs VL)} {g h : EX} : wpo (eBin2 g2 g h ρ M) Q E ↔ wpo (g ρ M) (fun x M1 => wpo (h ρ M1) (fun y M2 => wpo (g2 x y M2) Q E) E) E := by
  unfold eBin2; rw [wpo_bnd]
  constructor <;> intro h <;> refine wpo_mono h fun x M1 h => ?_
  · exact wpo_bnd.mp h
  · exact wpo_bnd.mpr h
@[simp] theorem one1_eq {g2 : VL → MH → Option (Rs VL)} {x : VL} : one1 g2 [x] M = g2 x M := rfl
@[simp] theorem withD_eq {dps : List PD} {fn : Fn} {xs : List VL} : withD dps fn xs M = fn (xs ++ dps.map VL.d) M := rfl
@[simp] theorem wps_setF {cs : List Nat} {f : Str} {go gv : EX} {Q : Fl → EV → MH → Prop} : wps (sSetF cs f go gv ρ M) Q ↔ wpo (gv ρ M) (fun y M1 => wpo (go ρ M1) (fun x M2 => wpD (setF cs f y x M2) fun M3 => Q .nx ρ M3) (fun c xs M1 => Q (.ex c xs) ρ M1)) (fun c xs M1 => Q (.ex c xs) ρ M1) := by
  unfold sSetF; rw [wps_bnd]
  constructor <;> intro h <;> refine wpo_mono h fun v M1 h => ?_
  · rw [wps_bnd] at h
    refine wpo_mono h fun o M2 h => ?_
    cases h1 : setF cs f v o M2 with
    | none => rw [h1] at h; exact h.elim
    | some M4 => rw [h1] at h; exact h
  · rw [wps_bnd]
    refine wpo_mono h fun o M2 h => ?_
    cases h1 : setF cs f v o M2 with
    | none => rw [h1] at h; exact h.elim
    | some M4 => rw [h1] at h; exact h
end
section
variable {M : MH} {n m : Int} {a b : List Int} {i : Nat} {tl : List (Nat × Nat)} {cl : List Nat} {G : Nat → Fn} {f : PD → PD → Option PD} {f1 : PD → Option PD} {fN : List PD → Option PD} {y : VL}
@[simp] theorem fld_many : fldC fnC (13 :: cl) "many" (.d (hS n a)) M = some (.d (.int n)) := rfl
@[simp] theorem fld_held : fldC fnC (13 :: cl) "held" (.d (hS n a)) M = some (.d (.tup (a.map .int))) := rfl
@[simp] theorem propC_h : propC ((13, i) :: tl) G (.d (hS n a)) M = okR (G i [.d (hS n a)] M) := rfl
@[simp] theorem mthC_moved : mthC fnC "moved" ((13, i) :: tl) (.d (hS n a)) M = some i := rfl
@[simp] theorem mthC_fold : mthC fnC "fold" ((13, i) :: tl) (.d (hS n a)) M = some i := rfl
@[simp] theorem mthC_fewest : mthC fnC "fewest" ((13, i) :: tl) (.d (hS n a)) M = some i := rfl
@[simp] theorem mthC_row : mthC fnC "row" ((13, i) :: tl) (.d (hS n a)) M = some i := rfl
@[simp] theorem mthC_period : mthC fnC "period" ((13, i) :: tl) (.d (hS n a)) M = some i := rfl
@[simp] theorem own1_h : own1 ((13, i) :: tl) G f1 (.d (hS n a)) M = okR (G i [.d (hS n a)] M) := rfl
@[simp] theorem own2_hh : own2 ((13, i) :: tl) G f (.d (hS n a)) (.d (hS m b)) M = okR (G i [.d (hS n a), .d (hS m b)] M) := rfl
@[simp] theorem own2_hi : own2 ((13, i) :: tl) G f (.d (hS n a)) (.d (.int m)) M = okR (G i [.d (hS n a), .d (.int m)] M) := rfl
@[simp] theorem ownEq_hh : ownEq ((13, i) :: tl) G f (.d (hS n a)) (.d (hS m b)) M = okR (G i [.d (hS n a), .d (hS m b)] M) := rfl
@[simp] theorem ownNe_hh : ownNe ((13, i) :: tl) G f (.d (hS n a)) (.d (hS m b)) M = notR (G i [.d (hS n a), .d (hS m b)] M) := rfl
@[simp] theorem ownIn_h : ownIn ((13, i) :: tl) G f y (.d (hS n a)) M = blR (G i [.d (hS n a), y] M) := rfl
@[simp] theorem ownNi_h : ownNi ((13, i) :: tl) G f y (.d (hS n a)) M = notR (G i [.d (hS n a), y] M) := rfl
@[simp] theorem ownLen_h : ownLen ((13, i) :: tl) G fN (.d (hS n a)) M = lenR (G i [.d (hS n a)] M) := rfl
@[simp] theorem ownStr_h : ownStr ((13, i) :: tl) G fN (.d (hS n a)) M = strR (G i [.d (hS n a)] M) := rfl
@[simp] theorem isiO_h : isiO (13 :: cl) 13 (.d (hS n a)) M = some (.ok (.d (.bl true)) M) := rfl
@[simp] theorem isiO_i : isiO (13 :: cl) 13 (.d (.int n)) M = some (.ok (.d (.bl false)) M) := rfl
end
end Mi
namespace Mi
open PySem PySem.Spec PyProof.Rows L2
def IsDivs (n : Int) (L : List Int) : Prop := L.Pairwise (· < ·) ∧ ∀ x : Int, x ∈ L ↔ 0 < x ∧ x ∣ n
section
variable {tab : Nat → Option Body} {n : Nat} {M : MH}
theorem is_integer_i (h : TP tab) (i : Int) : GG tab (n + 1) 9 [.d (.int i)] M = some (.ok (.d (.bl true)) M) := by
  refine eq_of_wpo ((wpo_GG h.p9).mpr ?_)
  simp [andThen_nx, b_values_is_integer]
theorem is_between_i (h : TP tab) (i a b : Int) : GG tab (n + 2) 10 [.d (.int i), .d (.int a), .d (.int b)] M = some (.ok (.d (.bl (decide (a ≤ i) && decide (i ≤ b)))) M) := by
  refine eq_of_wpo ((wpo_GG h.p10).mpr ?_)
  simp [andThen_nx, b_values_is_between, is_integer_i h]
  by_cases h1 : a ≤ i <;> simp [h1]
theorem check_clock_i (h : TP tab) {c m : Int} (h1 : 1 ≤ c) (h2 : c ≤ m) : GG tab (n + 2) 12 [.d (.int c), .d (.int m)] M = some (.ok (.d .non) M) := by
  refine eq_of_wpo ((wpo_GG h.p12).mpr ?_)
  simp [andThen_nx, b_values_check_clock, is_integer_i h, show ¬ c < 1 by omega, show ¬ m < c by omega]
theorem check_size_i (h : TP tab) {c m : Int} (h1 : 1 ≤ c) (h2 : c ≤ m) : GG tab (n + 3) 13 [.d (.int c), .d (.int m)] M = some (.ok (.d .non) M) := by
  refine eq_of_wpo ((wpo_GG h.p13).mpr ?_)
  simp [andThen_nx, b_values_check_size, is_between_i h, h1, h2]
theorem check_times_i (h : TP tab) {c m : Int} (h1 : m ≤ c) (h2 : c ≤ 10 ^ 30) : GG tab (n + 2) 14 [.d (.int c), .d (.int m)] M = some (.ok (.d .non) M) := by
  refine eq_of_wpo ((wpo_GG h.p14).mpr ?_)
  simp [andThen_nx, b_values_check_times, is_integer_i h, show ¬ c < m by omega, show ¬ 1000000000000000000000000000000 < c by omega]
theorem divided_up_i (h : TP tab) {a d : Int} (h1 : 0 < d) (h2 : d < 2 ^ 8000) : GG tab (n + 1) 19 [.d (.int a), .d (.int d)] M = some (.ok (.d (.int (-(-a / d)))) M) := by
  refine eq_of_wpo ((wpo_GG h.p19).mpr ?_)
  simp [andThen_nx, b_values_divided_up, divOk_of h1 h2]
/-- while the divisors are sought -/
structure DivI (k d : Int) (lo hi : List Int) : Prop where
  d1 : 1 ≤ d
  dn : d ≤ k + 1
  mlo : ∀ x, x ∈ lo ↔ 0 < x ∧ x < d ∧ x * x ≤ k ∧ x ∣ k
  mhi : ∀ x, x ∈ hi ↔ ∃ y, 0 < y ∧ y < d ∧ y * y < k ∧ y ∣ k ∧ x = k / y
  slo : lo.Pairwise (· < ·)
  shi : hi.Pairwise (· > ·)
  llo : (lo.length : Int) < d
  lhi : (hi.length : Int) < d
  sq : (d - 1) * (d - 1) ≤ k
theorem sq1 {d k : Int} (h : d * d ≤ k) : (d + 1 - 1) * (d + 1 - 1) ≤ k := by
  have e : d + 1 - 1 = d := by omega
  rw [e]; exact h
theorem mod_dvd {k d : Int} (h : k % d = 0) : d ∣ k := Int.dvd_of_emod_eq_zero h
theorem DivI.step_no {k d : Int} {lo hi : List Int} (I : DivI k d lo hi) (hk : 1 ≤ k) (hd : d * d ≤ k) (h : ¬ d ∣ k) : DivI k (d + 1) lo hi := by
  have h1 := I.d1
  have le : d ≤ k := by
    have := Int.mul_le_mul_of_nonneg_left h1 (show 0 ≤ d by omega)
    omega
  refine ⟨by omega, by omega, fun x => ?_, fun x => ?_, I.slo, I.shi, by have := I.llo; omega, by have := I.lhi; omega, sq1 hd⟩
  · rw [I.mlo]
    constructor
    · rintro ⟨a, b, c, e⟩; exact ⟨a, by omega, c, e⟩
    · rintro ⟨a, b, c, e⟩
      refine ⟨a, ?_, c, e⟩
      have : x ≠ d := fun z => h (z ▸ e)
      omega
  · rw [I.mhi]
    constructor
    · rintro ⟨y, a, b, c⟩; exact ⟨y, a, by omega, c⟩
    · rintro ⟨y, a, b, c, e, g⟩
      refine ⟨y, a, ?_, c, e, g⟩
      have : y ≠ d := fun z => h (z ▸ e)
      omega
theorem DivI.step_lo {k d : Int} {lo hi : List Int} (I : DivI k d lo hi) (hk : 1 ≤ k) (hd : d * d ≤ k) (h : d ∣ k) (hq : ¬ d * d < k) : DivI k (d + 1) (lo ++ [d]) hi := by
  have h1 := I.d1
  have le : d ≤ k := by
    have := Int.mul_le_mul_of_nonneg_left h1 (show 0 ≤ d by omega)
    omega
  refine ⟨by omega, by omega, fun x => ?_, fun x => ?_, ?_, I.shi, by have := I.llo; simp; omega, by have := I.lhi; omega, sq1 hd⟩
  · rw [List.mem_append, I.mlo, List.mem_singleton]
    constructor
    · rintro (⟨a, b, c, e⟩ | rfl)
      · exact ⟨a, by omega, c, e⟩
      · exact ⟨by omega, by omega, hd, h⟩
    · rintro ⟨a, b, c, e⟩
      by_cases z : x = d
      · exact .inr z
      · exact .inl ⟨a, by omega, c, e⟩
  · rw [I.mhi]
    constructor
    · rintro ⟨y, a, b, c⟩; exact ⟨y, a, by omega, c⟩
    · rintro ⟨y, a, b, c, e, g⟩
      refine ⟨y, a, ?_, c, e, g⟩
      have : y ≠ d := fun z => hq (z ▸ c)
      omega
  · rw [List.pairwise_append]
    exact ⟨I.slo, List.pairwise_singleton _ _, fun a ha b hb => by
      have : b = d := by simpa using hb
      have := (I.mlo a).mp ha
      omega⟩
theorem div_anti {k a b : Int} (hk : 1 ≤ k) (ha : 0 < a) (hab : a < b) (h1 : a ∣ k) (h2 : b ∣ k) : k / b < k / a := by
  obtain ⟨x, rfl⟩ := h1
  obtain ⟨y, hy⟩ := h2
  rw [Int.mul_ediv_cancel_left _ (by omega), hy, Int.mul_ediv_cancel_left _ (by omega)]
  have y0 : 0 < y := by
    refine Int.pos_of_mul_pos_right (a := b) ?_ (by omega)
    omega
  have : a * y < a * x := by
    rw [hy]
    exact Int.mul_lt_mul_of_pos_right hab y0
  exact Int.lt_of_mul_lt_mul_left this (by omega)
theorem DivI.step_hi {k d : Int} {lo hi : List Int} (I : DivI k d lo hi) (hk : 1 ≤ k) (hd : d * d ≤ k) (h : d ∣ k) (hq : d * d < k) : DivI k (d + 1) (lo ++ [d]) (hi ++ [k / d]) := by
  have h1 := I.d1
  have le : d ≤ k := by
    have := Int.mul_le_mul_of_nonneg_left h1 (show 0 ≤ d by omega)
    omega
  refine ⟨by omega, by omega, fun x => ?_, fun x => ?_, ?_, ?_, by have := I.llo; simp; omega, by have := I.lhi; simp; omega, sq1 hd⟩
  · rw [List.mem_append, I.mlo, List.mem_singleton]
    constructor
    · rintro (⟨a, b, c, e⟩ | rfl)
      · exact ⟨a, by omega, c, e⟩
      · exact ⟨by omega, by omega, hd, h⟩
    · rintro ⟨a, b, c, e⟩
      by_cases z : x = d
      · exact .inr z
      · exact .inl ⟨a, by omega, c, e⟩
  · rw [List.mem_append, I.mhi, List.mem_singleton]
    constructor
    · rintro (⟨y, a, b, c⟩ | rfl)
      · exact ⟨y, a, by omega, c⟩
      · exact ⟨d, by omega, by omega, hq, h, rfl⟩
    · rintro ⟨y, a, b, c, e, g⟩
      by_cases z : y = d
      · subst z; exact .inr g
      · exact .inl ⟨y, a, by omega, c, e, g⟩
  · rw [List.pairwise_append]
    exact ⟨I.slo, List.pairwise_singleton _ _, fun a ha b hb => by
      have : b = d := by simpa using hb
      have := (I.mlo a).mp ha
      omega⟩
  · rw [List.pairwise_append]
    refine ⟨I.shi, List.pairwise_singleton _ _, fun a ha b hb => ?_⟩
    have : b = k / d := by simpa using hb
    obtain ⟨y, y0, yd, _, yk, rfl⟩ := (I.mhi a).mp ha
    rw [this]
    exact div_anti hk y0 yd yk h
theorem DivI.done {k d : Int} {lo hi : List Int} (I : DivI k d lo hi) (hk : 1 ≤ k) (hd : ¬ d * d ≤ k) : IsDivs k (lo ++ hi.reverse) := by
  have h1 := I.d1
  have small : ∀ x : Int, 0 < x → x * x ≤ k → x < d := fun x x0 hx => by
    apply Decidable.byContradiction
    intro z
    have : d * d ≤ x * x := Int.mul_le_mul (by omega) (by omega) (by omega) (by omega)
    omega
  constructor
  · rw [List.pairwise_append, List.pairwise_reverse]
    refine ⟨I.slo, I.shi, fun a ha b hb => ?_⟩
    obtain ⟨a0, ad, aa, ak⟩ := (I.mlo a).mp ha
    obtain ⟨y, y0, yd, yy, yk, rfl⟩ := (I.mhi b).mp (List.mem_reverse.mp hb)
    obtain ⟨z, hz⟩ := yk
    rw [hz, Int.mul_ediv_cancel_left _ (by omega)]
    -- a * a ≤ y * z, y * y < y * z
    have yz : y < z := by
      rw [hz] at yy
      exact Int.lt_of_mul_lt_mul_left yy (by omega)
    apply Decidable.byContradiction
    intro w
    have : z * z ≤ a * a := Int.mul_le_mul (by omega) (by omega) (by omega) (by omega)
    have : y * z < z * z := Int.mul_lt_mul_of_pos_right yz (by omega)
    omega
  · intro x
    rw [List.mem_append, List.mem_reverse, I.mlo, I.mhi]
    constructor
    · rintro (⟨a, b, c, e⟩ | ⟨y, a, b, c, e, rfl⟩)
      · exact ⟨a, e⟩
      · obtain ⟨z, hz⟩ := e
        rw [hz, Int.mul_ediv_cancel_left _ (by omega)]
        refine ⟨?_, ⟨y, by rw [Int.mul_comm]⟩⟩
        exact Int.pos_of_mul_pos_right (a := y) (by omega) (by omega)
    · rintro ⟨x0, z, hz⟩
      have z0 : 0 < z := Int.pos_of_mul_pos_right (a := x) (by omega) (by omega)
      by_cases hx : x * x ≤ k
      · exact .inl ⟨x0, small x x0 hx, hx, z, hz⟩
      · have zx : z < x := by
          apply Decidable.byContradiction
          intro w
          have : x * x ≤ x * z := Int.mul_le_mul_of_nonneg_left (by omega) (by omega)
          omega
        have zz : z * z < k := by
          rw [hz]
          exact Int.mul_lt_mul_of_pos_right zx z0
        refine .inr ⟨z, z0, small z z0 (by omega), zz, ⟨x, by rw [hz, Int.mul_comm]⟩, ?_⟩
        rw [hz, Int.mul_ediv_cancel _ (by omega)]
theorem divisors_i (h : TP tab) {k : Int} (h1 : 1 ≤ k) (h2 : k ≤ 10 ^ 12) : ∃ L, IsDivs k L ∧ L.length < 2000002 ∧ GG tab (n + 1) 18 [.d (.int k)] M = some (.ok (.d (.lst (L.map .int))) M) := by
  have key : wpo (GG tab (n + 1) 18 [.d (.int k)] M) (fun v M' => ∃ L, IsDivs k L ∧ L.length < 2000002 ∧ v = .d (.lst (L.map .int)) ∧ M' = M) noE := by
    refine (wpo_GG h.p18).mpr ?_
    have sl : (2000002 : Nat) ≤ sizeLine := by rw [sizeLine_eq]; decide
    simp [andThen_nx, b_values_divisors_of]
    refine wps_while (fun m ρ M' => ∃ (d : Int) (lo hi : List Int), (m : Int) = k + 1 - d ∧ DivI k d lo hi ∧ ρ = [some (.d (.int k)), some (.r M.length), some (.r (M.length + 1)), some (.d (.int d))] ∧ M' = M ++ [.lst (lo.map .int), .lst (hi.map .int)]) k.toNat (by omega) ?_ ?_
    · refine ⟨1, [], [], by omega, ⟨by omega, by omega, fun x => ?_, fun x => ?_, List.Pairwise.nil, List.Pairwise.nil, by simp, by simp, by simp; omega⟩, rfl, by simp⟩
      · simp; omega
      · simp; omega
    · rintro m ρ M' ⟨d, lo, hi, hm, I, rfl, rfl⟩
      have i1 := I.d1
      have i2 := I.dn
      have i3 := I.llo
      have i4 := I.lhi
      have dd : (d - 1) * (d - 1) ≤ 10 ^ 12 := by have := I.sq; omega
      have ds : d ≤ 1000001 := by
        apply Decidable.byContradiction
        intro z
        have : (1000001 : Int) * 1000001 ≤ (d - 1) * (d - 1) := Int.mul_le_mul (by omega) (by omega) (by omega) (by omega)
        omega
      have mk : MulOk d d := mulOk_of ⟨by omega, by omega⟩ ⟨by omega, by omega⟩
      have dk : DivOk d := divOk_of (by omega) (by omega)
      simp [andThen_nx, mk, dk, isL, dv]
      refine ifB_dec (fun hd => ?_) (fun hd => ?_)
      · have le : d ≤ k := by
          have := Int.mul_le_mul_of_nonneg_left i1 (show 0 ≤ d by omega)
          omega
        refine ⟨by omega, ifB_dec (fun hv => ?_) (fun hv => ?_)⟩
        · refine ⟨ltSz_of (by omega), ifB_dec (fun hq => ⟨ltSz_of (by omega), ?_⟩) (fun hq => ?_)⟩
          · exact ⟨(k - d).toNat, by omega, d + 1, by omega, lo ++ [d], hi ++ [k / d], I.step_hi h1 hd (mod_dvd hv) hq, rfl, by simp, by simp⟩
          · exact ⟨(k - d).toNat, by omega, d + 1, by omega, lo ++ [d], hi, I.step_lo h1 hd (mod_dvd hv) hq, rfl, by simp, rfl⟩
        · exact ⟨(k - d).toNat, by omega, d + 1, by omega, lo, hi, I.step_no h1 hd (fun z => hv (Int.emod_eq_zero_of_dvd z)), rfl, rfl, rfl⟩
      · exact ⟨szOk_of (by omega), lo ++ hi.reverse, I.done h1 hd, by simp; omega, by simp⟩
  obtain ⟨v, M', e, L, q1, q2, rfl, rfl⟩ := wpo_get key
  exact ⟨L, q1, q2, e⟩
end
end Mi
namespace Mi
open PySem PySem.Spec PyProof.Rows L2
def up (a d : Int) : Int := -(-a / d)
def IsLeast (k : Int) (f : Int → Int) (m d : Int) : Prop := 0 < d ∧ d ∣ k ∧ m = f d ∧ ∀ x, 0 < x → x ∣ k → m ≤ f x ∧ (f x = m → d ≤ x)
theorem IsLeast.uniq {k : Int} {f : Int → Int} {m d m' d' : Int} (h : IsLeast k f m d) (h' : IsLeast k f m' d') : m = m' ∧ d = d' := by
  obtain ⟨a1, a2, a3, a4⟩ := h
  obtain ⟨b1, b2, b3, b4⟩ := h'
  have c1 := a4 d' b1 b2
  have c2 := b4 d a1 a2
  have e : m = m' := by omega
  have := c1.2 (by omega)
  have := c2.2 (by omega)
  exact ⟨e, by omega⟩
theorem least_of {k : Int} {L : List Int} (h : IsDivs k L) (hk : 1 ≤ k) (f : Int → Int) : ∃ m d, IsLeast k f m d ∧ minPrD [.lst (L.map fun x => prD (f x, x))] = some (.tup [.int m, .int d]) := by
  have one : (1 : Int) ∈ L := (h.2 1).mpr ⟨by omega, Int.one_dvd k⟩
  cases L with
  | nil => cases one
  | cons a L =>
    have e : (a :: L).map (fun x => prD (f x, x)) = ((f a, a) :: L.map fun x => (f x, x)).map prD := by simp
    obtain ⟨h1, h2⟩ := minPr_le (L.map fun x => (f x, x)) (f a, a)
    have e3 : (f a, a) :: L.map (fun x => (f x, x)) = (a :: L).map fun x => (f x, x) := rfl
    rw [e3] at h1 h2
    obtain ⟨d, hd, ed⟩ := List.mem_map.mp h1
    refine ⟨f d, d, ?_, ?_⟩
    · have := (h.2 d).mp hd
      refine ⟨this.1, this.2, rfl, fun x x0 xk => ?_⟩
      have hx : x ∈ a :: L := (h.2 x).mpr ⟨x0, xk⟩
      have := h2 (f x, x) (List.mem_map.mpr ⟨x, hx, rfl⟩)
      rw [← ed] at this
      exact this
    · unfold minPrD
      rw [e]
      dsimp only
      rw [prsOf_map]
      dsimp only
      rw [← ed]
      rfl
section
variable {tab : Nat → Option Body} {n : Nat} {M : MH}
def Sm (a : Int) : Prop := -(2 ^ 2000) < a ∧ a < 2 ^ 2000
theorem up_sm {a d : Int} (ha : Sm a) (hd : 0 < d) : -(2 ^ 2000) - 1 < up a d ∧ up a d < 2 ^ 2000 + 1 := by
  unfold up
  have h1 : -a / d * d ≤ -a := Int.ediv_mul_le _ (by omega)
  have h2 : -a < (-a / d + 1) * d := Int.lt_ediv_add_one_mul_self _ hd
  have h3 := ha.1
  have h4 := ha.2
  constructor
  · apply Decidable.byContradiction
    intro z
    have : (2 ^ 2000 + 1) * 1 ≤ (-a / d) * d := Int.mul_le_mul (by omega) (by omega) (by omega) (by omega)
    omega
  · apply Decidable.byContradiction
    intro z
    have e : (-a / d + 1) * d ≤ (-(2 ^ 2000)) * d := Int.mul_le_mul_of_nonneg_right (by omega) (by omega)
    have e2 : (-(2 ^ 2000)) * d ≤ (-(2 ^ 2000)) * 1 := by
      rw [Int.neg_mul, Int.neg_mul]
      have : (2 ^ 2000 : Int) * 1 ≤ 2 ^ 2000 * d := Int.mul_le_mul_of_nonneg_left (by omega) (by omega)
      omega
    omega
theorem mul_bd {a b A B : Int} (h1 : -A ≤ a) (h2 : a ≤ A) (h3 : -B ≤ b) (h4 : b ≤ B) : -(A * B) ≤ a * b ∧ a * b ≤ A * B := by
  have e1 : (a * b).natAbs = a.natAbs * b.natAbs := Int.natAbs_mul a b
  have e2 : a.natAbs * b.natAbs ≤ A.toNat * B.toNat := Nat.mul_le_mul (by omega) (by omega)
  have e3 : ((A.toNat * B.toNat : Nat) : Int) = A * B := by
    rw [Int.natCast_mul, Int.toNat_of_nonneg (by omega), Int.toNat_of_nonneg (by omega)]
  have e4 : ((A.toNat * B.toNat : Nat) : Int) ≥ ((a * b).natAbs : Int) := by rw [e1]; exact Int.ofNat_le.mpr e2
  rw [e3] at e4
  omega
theorem take_snoc {α β : Type} {f : α → β} {L : List α} {i : Nat} {x : α} (h : L[i]? = some x) : (L.map f).take (i + 1) = (L.map f).take i ++ [f x] := by
  rw [List.take_add_one, List.getElem?_map, h]; rfl
theorem dvd_le {x k : Int} (hk : 1 ≤ k) (h : x ∣ k) : x ≤ k := Int.le_of_dvd (by omega) h
theorem least_divisor_i (h : TP tab) {k r s : Int} (h1 : 1 ≤ k) (h2 : k ≤ 10 ^ 12) (hr : Sm r) (hs : Sm s) : ∃ m d, IsLeast k (fun d => (up r d + up s d - 1) * d) m d ∧ GG tab (n + 2) 64 [.d (.int k), .d (.int r), .d (.int s)] M = some (.ok (.d (.tup [.int m, .int d])) M) := by
  obtain ⟨L, hL, hl, e⟩ := divisors_i (n := n) (M := M ++ [.lst []]) h h1 h2
  obtain ⟨m, d, hm, em⟩ := least_of hL h1 (fun d => (up r d + up s d - 1) * d)
  refine ⟨m, d, hm, eq_of_wpo ((wpo_GG h.p64).mpr ?_)⟩
  simp [andThen_nx, b_clocks_least_divisor, e]
  refine wps_forL (fun i ρ M' => ∃ o, ρ = [some (.d (.int k)), some (.d (.int r)), some (.d (.int s)), some (.r M.length), o] ∧ M' = M ++ [.lst ((L.take i).map fun x => prD ((up r x + up s x - 1) * x, x))]) ?_ ?_ ?_
  · exact ⟨_, rfl, by simp⟩
  · rintro i d ρ M' hd ⟨o, rfl, rfl⟩
    rw [List.getElem?_map] at hd
    cases hx : L[i]? with
    | none => rw [hx] at hd; cases hd
    | some x =>
      rw [hx] at hd
      cases hd
      have hm := (hL.2 x).mp (List.mem_of_getElem? hx)
      have xk := dvd_le h1 hm.2
      have b1 := up_sm hr hm.1
      have b2 := up_sm hs hm.1
      have hi := (List.getElem?_eq_some_iff.mp hx).1
      simp [andThen_nx, divided_up_i h (a := r) (d := x) hm.1 (by omega), divided_up_i h (a := s) (d := x) hm.1 (by omega)]
      refine ⟨mulOk_of ⟨by unfold up at b1 b2; omega, by unfold up at b1 b2; omega⟩ ⟨by omega, by omega⟩, ltSz_of (by omega), ?_⟩
      rw [take_snoc hx]
      rfl
  · rintro ρ M' ⟨o, rfl, rfl⟩
    have e2 : (L.take (L.map PD.int).length) = L := by simp
    rw [e2]
    simp [andThen_nx, em]
theorem fold_divisor_i (h : TP tab) {k r t : Int} (h1 : 1 ≤ k) (h2 : k ≤ 10 ^ 12) (hr : Sm r) (ht : Sm t) : ∃ m d, IsLeast k (fun d => (t * up r d - t + 1) * d) m d ∧ GG tab (n + 2) 65 [.d (.int k), .d (.int r), .d (.int t)] M = some (.ok (.d (.tup [.int m, .int d])) M) := by
  obtain ⟨L, hL, hl, e⟩ := divisors_i (n := n) (M := M ++ [.lst []]) h h1 h2
  obtain ⟨m, d, hm, em⟩ := least_of hL h1 (fun d => (t * up r d - t + 1) * d)
  refine ⟨m, d, hm, eq_of_wpo ((wpo_GG h.p65).mpr ?_)⟩
  simp [andThen_nx, b_clocks_fold_divisor, e]
  refine wps_forL (fun i ρ M' => ∃ o, ρ = [some (.d (.int k)), some (.d (.int r)), some (.d (.int t)), some (.r M.length), o] ∧ M' = M ++ [.lst ((L.take i).map fun x => prD ((t * up r x - t + 1) * x, x))]) ?_ ?_ ?_
  · exact ⟨_, rfl, by simp⟩
  · rintro i d ρ M' hd ⟨o, rfl, rfl⟩
    rw [List.getElem?_map] at hd
    cases hx : L[i]? with
    | none => rw [hx] at hd; cases hd
    | some x =>
      rw [hx] at hd
      cases hd
      have hm := (hL.2 x).mp (List.mem_of_getElem? hx)
      have xk := dvd_le h1 hm.2
      have b1 := up_sm hr hm.1
      have hi := (List.getElem?_eq_some_iff.mp hx).1
      have b2 := ht.1
      have b3 := ht.2
      simp [andThen_nx, divided_up_i h (a := r) (d := x) hm.1 (by omega)]
      have b4 := mul_bd (a := t) (b := up r x) (A := 2 ^ 2000) (B := 2 ^ 2000 + 1) (by omega) (by omega) (by omega) (by omega)
      unfold up at b1 b4
      refine ⟨mulOk_of ⟨by omega, by omega⟩ ⟨by omega, by omega⟩, mulOk_of ⟨by omega, by omega⟩ ⟨by omega, by omega⟩, ltSz_of (by omega), ?_⟩
      rw [take_snoc hx]
      rfl
  · rintro ρ M' ⟨o, rfl, rfl⟩
    have e2 : (L.take (L.map PD.int).length) = L := by simp
    rw [e2]
    simp [andThen_nx, em]
theorem reach_divisor_i (h : TP tab) {k t : Int} (h1 : 1 ≤ k) (h2 : k ≤ 10 ^ 12) (ht0 : 0 < t) (ht : Sm t) : ∃ m d, IsLeast k (fun d => -d * up (k / d - 1) t) m d ∧ GG tab (n + 2) 66 [.d (.int k), .d (.int t)] M = some (.ok (.d (.tup [.int (1 - m), .int d])) M) := by
  obtain ⟨L, hL, hl, e⟩ := divisors_i (n := n) (M := M ++ [.lst []]) h h1 h2
  obtain ⟨m, d, hm, em⟩ := least_of hL h1 (fun d => -d * up (k / d - 1) t)
  refine ⟨m, d, hm, eq_of_wpo ((wpo_GG h.p66).mpr ?_)⟩
  simp [andThen_nx, b_clocks_reach_divisor, e]
  refine wps_forL (fun i ρ M' => ∃ o, ρ = [some (.d (.int k)), some (.d (.int t)), some (.r M.length), o, none] ∧ M' = M ++ [.lst ((L.take i).map fun x => prD (-x * up (k / x - 1) t, x))]) ?_ ?_ ?_
  · exact ⟨_, rfl, by simp⟩
  · rintro i d ρ M' hd ⟨o, rfl, rfl⟩
    rw [List.getElem?_map] at hd
    cases hx : L[i]? with
    | none => rw [hx] at hd; cases hd
    | some x =>
      rw [hx] at hd
      cases hd
      have hm := (hL.2 x).mp (List.mem_of_getElem? hx)
      have xk := dvd_le h1 hm.2
      have hi := (List.getElem?_eq_some_iff.mp hx).1
      have b2 := ht.1
      have b3 := ht.2
      have q1 : 0 ≤ k / x := Int.ediv_nonneg (by omega) (by omega)
      have q2 : k / x ≤ k := Int.ediv_le_self _ (by omega)
      have b1 := up_sm (a := k / x - 1) ⟨by omega, by omega⟩ ht0
      simp [andThen_nx, divided_up_i h (a := k / x - 1) (d := t) ht0 (by omega)]
      unfold up at b1
      refine ⟨divOk_of (by omega) (by omega), mulOk_of ⟨by omega, by omega⟩ ⟨by omega, by omega⟩, ltSz_of (by omega), ?_⟩
      rw [take_snoc hx]
      rfl
  · rintro ρ M' ⟨o, rfl, rfl⟩
    have e2 : (L.take (L.map PD.int).length) = L := by simp
    rw [e2]
    simp [andThen_nx, em]
theorem apart_divisor_i (h : TP tab) {k t : Int} (h1 : 1 ≤ k) (h2 : k ≤ 10 ^ 12) (ht0 : 0 < t) (ht : Sm t) : ∃ m d, IsLeast k (fun d => -((d - 2) / (2 * t + 1) + 1) * (k / d)) m d ∧ GG tab (n + 2) 67 [.d (.int k), .d (.int t)] M = some (.ok (.d (.tup [.int (-m), .int d])) M) := by
  obtain ⟨L, hL, hl, e⟩ := divisors_i (n := n) (M := M ++ [.lst []]) h h1 h2
  obtain ⟨m, d, hm, em⟩ := least_of hL h1 (fun d => -((d - 2) / (2 * t + 1) + 1) * (k / d))
  refine ⟨m, d, hm, eq_of_wpo ((wpo_GG h.p67).mpr ?_)⟩
  simp only [b_clocks_apart_divisor]
  simp [andThen_nx, e]
  refine wps_forL (fun i ρ M' => ∃ o, ρ = [some (.d (.int k)), some (.d (.int t)), some (.r M.length), o, none] ∧ M' = M ++ [.lst ((L.take i).map fun x => prD (-((x - 2) / (2 * t + 1) + 1) * (k / x), x))]) ?_ ?_ ?_
  · exact ⟨_, rfl, by simp⟩
  · rintro i d ρ M' hd ⟨o, rfl, rfl⟩
    rw [List.getElem?_map] at hd
    cases hx : L[i]? with
    | none => rw [hx] at hd; cases hd
    | some x =>
      rw [hx] at hd
      cases hd
      have hm := (hL.2 x).mp (List.mem_of_getElem? hx)
      have xk := dvd_le h1 hm.2
      have hi := (List.getElem?_eq_some_iff.mp hx).1
      have b2 := ht.1
      have b3 := ht.2
      have q1 : 0 ≤ k / x := Int.ediv_nonneg (by omega) (by omega)
      have q2 : k / x ≤ k := Int.ediv_le_self _ (by omega)
      have p1 : -1 ≤ (x - 2) / (2 * t + 1) := by
        rw [Int.le_ediv_iff_mul_le (by omega)]
        omega
      have p2 : (x - 2) / (2 * t + 1) ≤ k := by
        have : (x - 2) / (2 * t + 1) ≤ k / (2 * t + 1) := Int.ediv_le_ediv (by omega) (by omega)
        have := Int.ediv_le_self (2 * t + 1) (show 0 ≤ k by omega)
        omega
      simp
      refine ⟨mulOk_of ⟨by omega, by omega⟩ ⟨by omega, by omega⟩, divOk_of (by omega) (by omega), divOk_of (by omega) (by omega), mulOk_of ⟨by omega, by omega⟩ ⟨by omega, by omega⟩, ltSz_of (by omega), ?_⟩
      rw [take_snoc hx]
      rfl
  · rintro ρ M' ⟨o, rfl, rfl⟩
    have e2 : (L.take (L.map PD.int).length) = L := by simp
    rw [e2]
    simp [andThen_nx, em]
theorem check_asked_i (h : TP tab) {k t : Int} (h1 : 1 ≤ k) (h2 : k ≤ 10 ^ 9) (ht : 1 ≤ t ∧ t ≤ 10 ^ 30) : GG tab (n + 3) 70 [.d (.int k), .d (.int t)] M = some (.ok (.d .non) M) := by
  refine eq_of_wpo ((wpo_GG h.p70).mpr ?_)
  simp [andThen_nx, b_clocks_check_asked, check_clock_i h h1 (show k ≤ 1000000000 by omega), check_times_i h ht.1 ht.2]
end
end Mi
namespace Mi
open PySem PySem.Spec PyProof.Rows L2
theorem up_spec (a : Int) {d : Int} (hd : 0 < d) : a ≤ up a d * d ∧ (up a d - 1) * d < a := by
  unfold up
  have h1 : -a / d * d ≤ -a := Int.ediv_mul_le _ (by omega)
  have h2 : -a < (-a / d + 1) * d := Int.lt_ediv_add_one_mul_self _ hd
  have e1 : -(-a / d) * d = -(-a / d * d) := by rw [Int.neg_mul]
  have e2 : (-(-a / d) - 1) * d = -((-a / d + 1) * d) := by rw [← Int.neg_mul]; congr 1; omega
  omega
theorem up_pos {a d : Int} (h0 : 0 < a) (hd : 0 < d) : 1 ≤ up a d := by
  have := up_spec a hd
  apply Decidable.byContradiction
  intro z
  have : up a d * d ≤ 0 * d := Int.mul_le_mul_of_nonneg_right (by omega) (by omega)
  omega
theorem up_zero (d : Int) : up 0 d = 0 := by simp [up]
end Mi
namespace Mi
open PySem PySem.Spec PyProof.Rows L2
def asI : PD → Option Int
  | .int i => some i
  | _ => none
def Kn (d : PD) : Prop := tyS d ≠ none
def numB (d : PD) (a b : Int) : Bool := match asI d with
  | some i => decide (a ≤ i) && decide (i ≤ b)
  | none => false
theorem numB_iff {d : PD} {a b : Int} : numB d a b = true ↔ ∃ i, d = .int i ∧ a ≤ i ∧ i ≤ b := by
  cases d <;> simp [numB, asI]
theorem asI_some {d : PD} {i : Int} (h : asI d = some i) : d = .int i := by
  cases d <;> cases h; rfl
@[simp] theorem isiD_str_s {x : Str} : isiD "str" (.str x) = some (.bl true) := rfl
@[simp] theorem isiD_tuple_t {xs : List PD} : isiD "tuple" (.tup xs) = some (.bl true) := rfl
theorem toPys_strs : ∀ ns : List Str, toPys (ns.map .str) = some (ns.map .str)
  | [] => rfl
  | n :: ns => by
    rw [List.map_cons]
    unfold toPys
    rw [toPys_strs ns]
    rfl
theorem inD_strs {x : Str} {ks : List Str} : inD (.str x) (.tup (ks.map .str)) = some (.bl (ks.any (· == x))) := by
  unfold inD seqOf toPy
  dsimp only
  rw [toPys_strs]
  dsimp only
  rw [if_pos (by simp [PyData.depth])]
  rw [List.any_map]
  rfl
section
variable {tab : Nat → Option Body} {n : Nat} {M : MH}
theorem k_isint (h : TP tab) {d : PD} (hk : Kn d) : GG tab (n + 1) 107 [.d d] M = some (.ok (.d (.bl (asI d).isSome)) M) := by
  refine eq_of_wpo ((wpo_GG h.p107).mpr ?_)
  cases d <;> first
    | exact (hk rfl).elim
    | simp [b_checker_is_integer, asI, isiD, tyS, isiT]
theorem k_isnum (h : TP tab) {d : PD} {a b : Int} (hk : Kn d) : GG tab (n + 2) 108 [.d d, .d (.int a), .d (.int b)] M = some (.ok (.d (.bl (numB d a b))) M) := by
  refine eq_of_wpo ((wpo_GG h.p108).mpr ?_)
  simp [b_checker_is_number, k_isint h hk]
  cases hd : asI d with
  | none => simp [numB, hd]
  | some i =>
    obtain rfl := asI_some hd
    simp [numB, asI]
    by_cases h1 : a ≤ i <;> simp [h1]
theorem k_up (h : TP tab) {a d : Int} (h1 : 0 < d) (h2 : d < 2 ^ 8000) : GG tab (n + 1) 111 [.d (.int a), .d (.int d)] M = some (.ok (.d (.int (up a d))) M) := by
  refine eq_of_wpo ((wpo_GG h.p111).mpr ?_)
  simp [b_checker_divided_up, divOk_of h1 h2]
  unfold up
  have e : (a + d - 1) / d = -(-a / d) := by
    have u := up_spec a h1
    unfold up at u
    have q1 : -(-a / d) ≤ (a + d - 1) / d := by
      rw [Int.le_ediv_iff_mul_le h1]
      have := u.2
      have e2 : (-(-a / d) - 1) * d = -(-a / d) * d - d := by rw [Int.sub_mul]; omega
      omega
    have q2 : (a + d - 1) / d < -(-a / d) + 1 := by
      rw [Int.ediv_lt_iff_lt_mul h1]
      have := u.1
      have e2 : (-(-a / d) + 1) * d = -(-a / d) * d + d := by rw [Int.add_mul]; omega
      omega
    omega
  exact e
end
@[simp] theorem atI_l3 {α : Type} {a b c : α} : atI [a, b, c] (-1) = some c := rfl
@[simp] theorem atI_l4 {α : Type} {a b c d : α} : atI [a, b, c, d] (-1) = some d := rfl
@[simp] theorem atI_l5 {α : Type} {a b c d e : α} : atI [a, b, c, d, e] (-1) = some e := rfl
theorem up_id' {a d : Int} (h0 : 0 ≤ a) (hd : 1 ≤ d) : up a d ≤ a := by
  apply Decidable.byContradiction
  intro z
  have u := (up_spec a (d := d) (by omega)).2
  have : a * d ≤ (up a d - 1) * d := Int.mul_le_mul_of_nonneg_right (by omega) (by omega)
  have : a * 1 ≤ a * d := Int.mul_le_mul_of_nonneg_left hd h0
  omega
section
variable {tab : Nat → Option Body} {n : Nat} {M : MH} {c r s t : PD}
theorem sizes_least (h : TP tab) (kc : Kn c) (kr : Kn r) (ks : Kn s) (kt : Kn t) : ∃ b, GG tab (n + 3) 110 [.d (.str "least"), .d (.tup [c, r, s, t])] M = some (.ok (.d (.bl b)) M) ∧
    (b = true ↔ ∃ k x y z, c = .int k ∧ r = .int x ∧ s = .int y ∧ t = .int z ∧ 1 ≤ k ∧ k ≤ 10 ^ 9 ∧ 1 ≤ x ∧ x ≤ k ∧ 1 ≤ y ∧ y ≤ k) := by
  have key : wpo (GG tab (n + 3) 110 [.d (.str "least"), .d (.tup [c, r, s, t])] M) (fun v M' => ∃ b, v = .d (.bl b) ∧ M' = M ∧ (b = true ↔ ∃ k x y z, c = .int k ∧ r = .int x ∧ s = .int y ∧ t = .int z ∧ 1 ≤ k ∧ k ≤ 10 ^ 9 ∧ 1 ≤ x ∧ x ≤ k ∧ 1 ≤ y ∧ y ≤ k)) noE := by
    refine (wpo_GG h.p110).mpr ⟨rfl, ?_⟩
    simp only [b_checker_are_sizes]
    rw [wps_seq]
    simp
    rw [andThen_nx, wps_seq]
    simp [k_isnum h kc, k_isint h kt]
    cases hc : numB c 1 1000000000 with
    | false =>
      simp
      rintro k rfl x hx y hy z hz h1 h2
      have : numB (.int k) 1 1000000000 = true := numB_iff.mpr ⟨k, rfl, h1, h2⟩
      rw [this] at hc
      cases hc
    | true =>
      obtain ⟨k, rfl, h1, h2⟩ := numB_iff.mp hc
      simp
      cases ht : asI t with
      | none =>
        simp
        rintro x hx y hy z rfl
        cases ht
      | some z =>
        obtain rfl := asI_some ht
        simp
        rw [andThen_nx, wps_seq]
        simp [k_isnum h kr, k_isnum h ks]
        cases hr : numB r 1 k with
        | false =>
          simp
          rintro x rfl y hy _ _ h3 h4
          have : numB (.int x) 1 k = true := numB_iff.mpr ⟨x, rfl, h3, h4⟩
          rw [this] at hr
          cases hr
        | true =>
          obtain ⟨x, rfl, h3, h4⟩ := numB_iff.mp hr
          cases hs : numB s 1 k with
          | false =>
            simp
            rintro y rfl _ _ _ _ h5
            refine Decidable.byContradiction fun h6 => ?_
            have : numB (.int y) 1 k = true := numB_iff.mpr ⟨y, rfl, h5, by omega⟩
            rw [this] at hs
            cases hs
          | true =>
            obtain ⟨y, rfl, h5, h6⟩ := numB_iff.mp hs
            simp [h1, h2, h3, h4, h5, h6]
  obtain ⟨v, M', e, b, rfl, rfl, q⟩ := wpo_get key
  exact ⟨b, e, q⟩
abbrev kfL (x y : Int) : Int → Int := fun d => (up x d + up y d - 1) * d
theorem at_least (h : TP tab) {k x y z d : Int} (d1 : 1 ≤ d) (dk : d ≤ k) (k2 : k ≤ 10 ^ 9) (hx : 1 ≤ x ∧ x ≤ k) (hy : 1 ≤ y ∧ y ≤ k) :
    GG tab (n + 2) 112 [.d (.str "least"), .d (.tup [.int k, .int x, .int y, .int z]), .d (.int d)] M = some (.ok (.d (.int (kfL x y d))) M) := by
  refine eq_of_wpo ((wpo_GG h.p112).mpr ⟨rfl, ?_⟩)
  have u1 := up_id' (a := x) (d := d) (by omega) d1
  have u2 := up_id' (a := y) (d := d) (by omega) d1
  have v1 := up_pos (a := x) (d := d) (by omega) (by omega)
  have v2 := up_pos (a := y) (d := d) (by omega) (by omega)
  simp [b_checker_number_at, k_up h (a := x) (d := d) (by omega) (by omega), k_up h (a := y) (d := d) (by omega) (by omega)]
  exact mulOk_of ⟨by omega, by omega⟩ ⟨by omega, by omega⟩
structure Told (tab : Nat → Option Body) (W : Str) (ps : List PD) (k t : Int) (f : Int → Int) (n : Nat) : Prop where
  k1 : 1 ≤ k
  k2 : k ≤ 10 ^ 9
  p0 : ps[0]? = some (.int k)
  pl : atI ps (-1) = some (.int t)
  at_ : ∀ d M, 1 ≤ d → d ≤ k → GG tab n 112 [.d (.str W), .d (.tup ps), .d (.int d)] M = some (.ok (.d (.int (f d))) M)
/-- below low all is seen -/
def Seen (k low : Int) (ok : Int → Prop) : Prop := ∀ y, 0 < y → y ∣ k → (y < low ∨ k / y < low) → ok y
theorem seen_all {k low : Int} {ok : Int → Prop} (hk : 1 ≤ k) (h : Seen k low ok) (hl : k < low * low) (l1 : 1 ≤ low) : ∀ y, 0 < y → y ∣ k → ok y := by
  intro y y0 yk
  refine h y y0 yk ?_
  refine Decidable.byContradiction fun z => ?_
  have z1 : low ≤ y := by omega
  have z2 : low ≤ k / y := by omega
  have e : y * (k / y) = k := Int.mul_ediv_cancel' yk
  have := Int.mul_le_mul z1 z2 (by omega) (by omega)
  omega
theorem seen_no {k low : Int} {ok : Int → Prop} (l1 : 1 ≤ low) (h : Seen k low ok) (hn : ¬ low ∣ k) : Seen k (low + 1) ok := by
  intro y y0 yk hy
  refine h y y0 yk ?_
  have e : y * (k / y) = k := Int.mul_ediv_cancel' yk
  have a1 : y ≠ low := fun q => hn (q ▸ yk)
  have a2 : k / y ≠ low := fun q => hn ⟨y, by rw [← q, Int.mul_comm]; exact e.symm⟩
  omega
theorem seen_yes {k low : Int} {ok : Int → Prop} (k1 : 1 ≤ k) (l1 : 1 ≤ low) (h : Seen k low ok) (hd : low ∣ k) (h1 : ok low) (h2 : ok (k / low)) : Seen k (low + 1) ok := by
  intro y y0 yk hy
  have e : y * (k / y) = k := Int.mul_ediv_cancel' yk
  by_cases a1 : y = low
  · rw [a1]; exact h1
  · by_cases a2 : k / y = low
    · have : y = k / low := by
        rw [← a2]
        have : k / (k / y) = y := by
          refine Int.ediv_eq_of_eq_mul_left (by omega) ?_
          rw [e]
        exact this.symm
      rw [this]; exact h2
    · exact h y y0 yk (by omega)
def toldRest (G : Nat → Fn) : SX :=
  sSeq (sAsg 6 (eC (.int 1)))
    (sSeq (sWhile (tBl (eBin leD (eBin mulD (eVar 6) (eVar 6)) (eVar 3))) (sSeq (sIf (tBl (eBin eqD (eBin modD (eVar 3) (eVar 6)) (eC (.int 0)))) (sFor (gNm 7) (iSeq (eApp mkTup (aCons (eVar 6) (aCons (eBin fdivD (eVar 3) (eVar 6)) (aNil))))) (sSeq (sAsg 8 (eApp (G 112) (aCons (eVar 0) (aCons (eVar 1) (aCons (eVar 7) (aNil))))))
    (sIf (tIfx (tBl (eBin inD (eVar 0) (eApp mkTup (aCons (eC (.str "least")) (aCons (eC (.str "fold")) (aNil)))))) (tBl (eBin ltD (eVar 8) (eVar 5))) (tBl (eBin gtD (eVar 8) (eVar 5)))) (sRet (eC (.bl false))) (sNx)))) (sNx))
    (sAsg 6 (eBin addD (eVar 6) (eC (.int 1))))))
    (sRet (eC (.bl true))))
def bPost (M : MH) (A : Prop) : Fl → EV → MH → Prop := fun fl _ M' => ∃ b, fl = .rt (.d (.bl b)) ∧ M' = M ∧ (b = true ↔ A)
def okF (mn : Bool) (f : Int → Int) (q y : Int) : Prop := if mn = true then f q ≤ f y else f y ≤ f q
theorem told_rest {W : Str} {ps : List PD} {k t : Int} {f : Int → Int} {n : Nat} (T : Told tab W ps k t f n) {q : Int} {mn : Bool} (e1 : inD (.str W) (.tup [.str "least", .str "fold"]) = some (.bl mn)) :
    wps (toldRest (GG tab n) [some (.d (.str W)), some (.d (.tup ps)), some (.d (.int q)), some (.d (.int k)), some (.d (.int t)), some (.d (.int (f q))), none, none, none] M) (bPost M (∀ y, 0 < y → y ∣ k → okF mn f q y)) := by
  obtain ⟨k1, k2, p0, pl, hat⟩ := T
  unfold toldRest
  rw [wps_seq]
  simp
  rw [andThen_nx, wps_seq]
  refine wps_while (fun m ρ M' => ∃ (low : Int) (o7 o8 : Option VL), (m : Int) = k + 2 - low ∧ 1 ≤ low ∧ (low - 1) * (low - 1) ≤ k ∧ Seen k low (okF mn f q) ∧ ρ = [some (.d (.str W)), some (.d (.tup ps)), some (.d (.int q)), some (.d (.int k)), some (.d (.int t)), some (.d (.int (f q))), some (.d (.int low)), o7, o8] ∧ M' = M) (k + 1).toNat (by omega) ?_ ?_
  · refine ⟨1, none, none, by omega, by omega, by omega, fun y y0 yk hy => ?_, rfl, rfl⟩
    have := Int.ediv_pos_of_pos_of_dvd (show 0 < k by omega) (by omega) yk
    omega
  · rintro m ρ M' ⟨low, o7, o8, hm, l1, sq, seen, rfl, rfl⟩
    have ls : low ≤ 100000 := by
      apply Decidable.byContradiction
      intro z
      have : (100000 : Int) * 100000 ≤ (low - 1) * (low - 1) := Int.mul_le_mul (by omega) (by omega) (by omega) (by omega)
      omega
    have lk : (low - 1) ≤ k := by
      have : (low - 1) * 1 ≤ (low - 1) * (low - 1) ∨ low = 1 := by
        by_cases z : low = 1
        · exact .inr z
        · exact .inl (Int.mul_le_mul_of_nonneg_left (by omega) (by omega))
      omega
    simp
    refine ⟨mulOk_of ⟨by omega, by omega⟩ ⟨by omega, by omega⟩, ?_⟩
    refine ifB_dec (fun hl => ?_) (fun hl => ?_)
    · have le : low ≤ k := by
        have := Int.mul_le_mul_of_nonneg_left l1 (show 0 ≤ low by omega)
        omega
      have nxt : Seen k (low + 1) (okF mn f q) → ∃ k', k' < m ∧ ∃ (low' : Int), (k' : Int) = k + 2 - low' ∧ 1 ≤ low' ∧ (low' - 1) * (low' - 1) ≤ k ∧ Seen k low' (okF mn f q) ∧ low + 1 = low' := fun s =>
        ⟨(k + 1 - low).toNat, by omega, low + 1, by omega, by omega, by rw [show low + 1 - 1 = low by omega]; exact hl, s, rfl⟩
      refine ⟨by omega, ifB_dec (fun hv => ?_) (fun hv => ?_)⟩
      · have hd := Int.dvd_of_emod_eq_zero hv
        have c1 : 1 ≤ k / low := by have := Int.ediv_pos_of_pos_of_dvd (show 0 < k by omega) (by omega) hd; omega
        have c2 : k / low ≤ k := Int.ediv_le_self _ (by omega)
        refine ⟨divOk_of (by omega) (by omega), ?_⟩
        refine wps_forL (fun j ρ M1 => ∃ (o7 o8 : Option VL), ρ = [some (.d (.str W)), some (.d (.tup ps)), some (.d (.int q)), some (.d (.int k)), some (.d (.int t)), some (.d (.int (f q))), some (.d (.int low)), o7, o8] ∧ M1 = M' ∧ (1 ≤ j → okF mn f q low) ∧ (2 ≤ j → okF mn f q (k / low))) ⟨_, _, rfl, rfl, by omega, by omega⟩ ?_ ?_
        · rintro j d ρ M1 hd' ⟨p7, p8, rfl, rfl, g1, g2⟩
          have two : (j = 0 ∧ d = .int low) ∨ (j = 1 ∧ d = .int (k / low)) := by
            match j, hd' with
            | 0, h => exact .inl ⟨rfl, by simpa using h.symm⟩
            | 1, h => exact .inr ⟨rfl, by simpa using h.symm⟩
          have turn : ∀ (v : Int) (Qx : Fl → EV → MH → Prop), (∀ ρ, (∃ x, 0 < x ∧ x ∣ k ∧ ¬ okF mn f q x) → Qx (.rt (.d (.bl false))) ρ M1) → 1 ≤ v → v ≤ k → v ∣ k → (okF mn f q v → (1 ≤ j + 1 → okF mn f q low) ∧ (2 ≤ j + 1 → okF mn f q (k / low))) → d = .int v → wpD (gNm 7 (.d d) [some (.d (.str W)), some (.d (.tup ps)), some (.d (.int q)), some (.d (.int k)), some (.d (.int t)), some (.d (.int (f q))), some (.d (.int low)), p7, p8] M1) fun p => wps (sSeq (sAsg 8 (eApp (GG tab n 112) (aCons (eVar 0) (aCons (eVar 1) (aCons (eVar 7) (aNil))))))
    (sIf (tIfx (tBl (eBin inD (eVar 0) (eApp mkTup (aCons (eC (.str "least")) (aCons (eC (.str "fold")) (aNil)))))) (tBl (eBin ltD (eVar 8) (eVar 5))) (tBl (eBin gtD (eVar 8) (eVar 5)))) (sRet (eC (.bl false))) (sNx)) p.1 p.2) (turnQ (fun ρ M2 => ∃ (o7 o8 : Option VL), ρ = [some (.d (.str W)), some (.d (.tup ps)), some (.d (.int q)), some (.d (.int k)), some (.d (.int t)), some (.d (.int (f q))), some (.d (.int low)), o7, o8] ∧ M2 = M1 ∧ (1 ≤ j + 1 → okF mn f q low) ∧ (2 ≤ j + 1 → okF mn f q (k / low))) Qx) := by
            rintro v Qx hQ v1 v2 vk hok rfl
            simp [hat v _ v1 v2]
            rw [andThen_nx]
            simp [e1]
            cases mn with
            | true =>
              simp
              refine ifB_dec (fun hb => ?_) (fun hb => ?_)
              · refine hQ _ ⟨v, by omega, vk, ?_⟩
                simp [okF]
                exact hb
              · exact (by simpa using hok (by simp [okF]; omega))
            | false =>
              simp
              refine ifB_dec (fun hb => ?_) (fun hb => ?_)
              · refine hQ _ ⟨v, by omega, vk, ?_⟩
                simp [okF]
                exact hb
              · exact (by simpa using hok (by simp [okF]; omega))
          have bad : ∀ ρ : EV, (∃ x, 0 < x ∧ x ∣ k ∧ ¬ okF mn f q x) → bPost M1 (∀ y, 0 < y → y ∣ k → okF mn f q y) (.rt (.d (.bl false))) ρ M1 := fun ρ ⟨x, x0, xk, hx⟩ => ⟨false, rfl, rfl, by
            constructor
            · intro z; cases z
            · intro z; exact (hx (z x x0 xk)).elim⟩
          rcases two with ⟨rfl, e⟩ | ⟨rfl, e⟩
          · refine turn low _ ?_ l1 le hd (fun z => ⟨fun _ => z, by omega⟩) e
            exact bad
          · refine turn (k / low) _ ?_ c1 c2 ⟨low, (Int.ediv_mul_cancel hd).symm⟩ (fun z => ⟨fun _ => g1 (by omega), fun _ => z⟩) e
            exact bad
        · rintro ρ M1 ⟨p7, p8, rfl, rfl, g1, g2⟩
          rw [andThen_nx]
          simp
          exact nxt (seen_yes k1 l1 seen hd (g1 (by simp)) (g2 (by simp)))
      · rw [andThen_nx]
        simp
        exact nxt (seen_no l1 seen fun z => hv (Int.emod_eq_zero_of_dvd z))
    · rw [andThen_nx]
      simp
      refine ⟨true, rfl, rfl, fun _ => seen_all k1 seen (by omega) l1, fun _ => rfl⟩
theorem told_w (h : TP tab) {W : Str} {ps : List PD} {k t : Int} {f : Int → Int} (T : Told tab W ps k t f (n + 2)) {p : PD} (kp : Kn p) {mn rc : Bool} (e1 : inD (.str W) (.tup [.str "least", .str "fold"]) = some (.bl mn)) (e2 : eqD (.str W) (.str "reach") = some (.bl rc)) :
    ∃ b, GG tab (n + 3) 113 [.d (.str W), .d (.tup ps), .d p] M = some (.ok (.d (.bl b)) M) ∧
      (b = true ↔ ∃ q, p = .int q ∧ 1 ≤ q ∧ q ≤ k ∧ q ∣ k ∧ t = f q + (if rc = true then 1 else 0) ∧ ∀ y, 0 < y → y ∣ k → if mn = true then f q ≤ f y else f y ≤ f q) := by
  obtain ⟨k1, k2, p0, pl, hat⟩ := T
  have p0' : atI ps 0 = some (.int k) := atI_nat (j := 0) p0
  generalize hR : (∃ q, p = PD.int q ∧ 1 ≤ q ∧ q ≤ k ∧ q ∣ k ∧ t = f q + (if rc = true then 1 else 0) ∧ ∀ y, 0 < y → y ∣ k → if mn = true then f q ≤ f y else f y ≤ f q) = R
  have key : wpo (GG tab (n + 3) 113 [.d (.str W), .d (.tup ps), .d p] M) (fun v M' => ∃ b, v = .d (.bl b) ∧ M' = M ∧ (b = true ↔ R)) noE := by
    refine (wpo_GG h.p113).mpr ⟨rfl, ?_⟩
    simp only [b_checker_is_told]
    rw [wps_seq]
    simp [p0', pl]
    rw [andThen_nx, wps_seq]
    simp [k_isnum h kp]
    cases hp : numB p 1 k with
    | false =>
      simp
      rw [← hR]
      rintro ⟨q, rfl, h1, h2, _⟩
      have : numB (.int q) 1 k = true := numB_iff.mpr ⟨q, rfl, h1, h2⟩
      rw [this] at hp
      cases hp
    | true =>
      obtain ⟨q, rfl, q1, q2⟩ := numB_iff.mp hp
      simp
      refine ⟨by omega, ?_⟩
      refine ifB_by (fun hm => ?_) (fun hm => ?_)
      · rw [← hR]
        rintro ⟨q', hq, _, _, hd, _⟩
        cases hq
        have := Int.emod_eq_zero_of_dvd hd
        simp [this] at hm
      · have hd : q ∣ k := by
          simp at hm
          exact Int.dvd_of_emod_eq_zero hm
        rw [andThen_nx, wps_seq]
        simp [hat q _ q1 q2]
        rw [andThen_nx, wps_seq]
        simp [e2]
        have fin : t = f q + (if rc = true then 1 else 0) → wps (toldRest (GG tab (n + 2)) [some (.d (.str W)), some (.d (.tup ps)), some (.d (.int q)), some (.d (.int k)), some (.d (.int t)), some (.d (.int (f q))), none, none, none] M) (fun fl _ M' => ∃ b, fl = .rt (.d (.bl b)) ∧ M' = M ∧ (b = true ↔ R)) := fun et => by
          refine wps_mono (told_rest ⟨k1, k2, p0, pl, hat⟩ e1 (q := q)) ?_
          rintro fl ρ M' ⟨b, rfl, rfl, hb⟩
          refine ⟨b, rfl, rfl, hb.trans ?_⟩
          rw [← hR]
          constructor
          · exact fun z => ⟨q, rfl, q1, q2, hd, et, z⟩
          · rintro ⟨q', hq, _, _, _, _, z⟩
            cases hq
            exact z
        have no : t ≠ f q + (if rc = true then 1 else 0) → ¬ R := fun et => by
          rw [← hR]
          rintro ⟨q', hq, _, _, _, z, _⟩
          cases hq
          exact et z
        have go : t = f q + (if rc = true then 1 else 0) → wps (toldRest (GG tab (n + 2)) [some (.d (.str W)), some (.d (.tup ps)), some (.d (.int q)), some (.d (.int k)), some (.d (.int t)), some (.d (.int (f q))), none, none, none] M) (retQ true M (fun v M' => (∃ b, v = .d (.bl b) ∧ M' = M ∧ (b = true ↔ R))) noE) := fun et => by
          refine wps_mono (fin et) ?_
          rintro fl ρ M' ⟨b, rfl, rfl, hb⟩
          cases b <;> simp_all
        cases rc with
        | true =>
          simp at fin no go ⊢
          refine ifB_by (fun hz => ?_) (fun hz => ?_)
          · exact no (by simpa using hz)
          · rw [andThen_nx]
            exact go (by simpa using hz)
        | false =>
          simp at fin no go ⊢
          refine ifB_by (fun hz => ?_) (fun hz => ?_)
          · exact no (by simpa using hz)
          · rw [andThen_nx]
            exact go (by simpa using hz)
  obtain ⟨v, M', e, b, rfl, rfl, q⟩ := wpo_get key
  exact ⟨b, e, q⟩
def DueL (c r s t p : PD) : Prop := ∃ k x y z q, c = .int k ∧ r = .int x ∧ s = .int y ∧ t = .int z ∧ p = .int q ∧ 1 ≤ k ∧ k ≤ 10 ^ 9 ∧ 1 ≤ x ∧ x ≤ k ∧ 1 ≤ y ∧ y ≤ k ∧ 1 ≤ q ∧ q ≤ k ∧ q ∣ k ∧ z = kfL x y q ∧ ∀ w, 0 < w → w ∣ k → kfL x y q ≤ kfL x y w
theorem cut5 {a b c d e : PD} : cutD [a, b, c, d, e] (some 1) none = [b, c, d, e] := rfl
theorem cut4 {a b c d : PD} : cutD [a, b, c, d] (some 1) none = [b, c, d] := rfl
theorem in4 {x : Str} : inD (.str x) (.tup [.str "least", .str "fold", .str "reach", .str "apart"]) = some (.bl (["least", "fold", "reach", "apart"].any (· == x))) := inD_strs (ks := ["least", "fold", "reach", "apart"])
theorem in2 {x : Str} : inD (.str x) (.tup [.str "least", .str "fold"]) = some (.bl (["least", "fold"].any (· == x))) := inD_strs (ks := ["least", "fold"])
theorem accepts_least (h : TP tab) {p : PD} (kc : Kn c) (kr : Kn r) (ks : Kn s) (kt : Kn t) (kp : Kn p) : ∃ b, GG tab (n + 4) 109 [.d (.tup [.str "least", c, r, s, t]), .d p] M = some (.ok (.d (.bl b)) M) ∧ (b = true ↔ DueL c r s t p) := by
  generalize hR : DueL c r s t p = R
  have key : wpo (GG tab (n + 4) 109 [.d (.tup [.str "least", c, r, s, t]), .d p] M) (fun v M' => ∃ b, v = .d (.bl b) ∧ M' = M ∧ (b = true ↔ R)) noE := by
    refine (wpo_GG h.p109).mpr ⟨rfl, ?_⟩
    simp only [b_checker_accepts]
    rw [wps_seq]
    simp
    rw [andThen_nx, wps_seq]
    simp [cut5]
    rw [andThen_nx, wps_seq]
    simp [kgetD, List.lookup]
    rw [andThen_nx, wps_seq]
    obtain ⟨b, e, hb⟩ := sizes_least (n := n) (M := M) h kc kr ks kt
    simp [in4, e]
    cases b with
    | false =>
      simp
      rw [← hR]
      rintro ⟨k, x, y, z, q, a1, a2, a3, a4, _, a5, a6, a7, a8, a9, a10, _⟩
      have := hb.mpr ⟨k, x, y, z, a1, a2, a3, a4, a5, a6, a7, a8, a9, a10⟩
      cases this
    | true =>
      obtain ⟨k, x, y, z, rfl, rfl, rfl, rfl, a5, a6, a7, a8, a9, a10⟩ := hb.mp rfl
      obtain ⟨b, e, hb⟩ := told_w (n := n) (M := M) h (W := "least") (ps := [.int k, .int x, .int y, .int z]) (k := k) (t := z) (f := kfL x y) ⟨a5, a6, rfl, rfl, fun d M d1 dk => at_least h d1 dk a6 ⟨a7, a8⟩ ⟨a9, a10⟩⟩ kp in2 (rc := false) (by simp; decide)
      simp [e]
      have : b = true ↔ R := by
        rw [← hR, hb]
        constructor
        · rintro ⟨q, rfl, q1, q2, q3, q4, q5⟩
          exact ⟨k, x, y, z, q, rfl, rfl, rfl, rfl, rfl, a5, a6, a7, a8, a9, a10, q1, q2, q3, by simpa using q4, q5⟩
        · rintro ⟨k', x', y', z', q, e1, e2, e3, e4, rfl, _, _, _, _, _, _, q1, q2, q3, q4, q5⟩
          cases e1; cases e2; cases e3; cases e4
          exact ⟨q, rfl, q1, q2, q3, by simpa using q4, q5⟩
      cases b <;> simp_all
  obtain ⟨v, M', e, b, rfl, rfl, q⟩ := wpo_get key
  exact ⟨b, e, q⟩
end
end Mi
namespace Mi
def DB (n b : Nat) : Prop := ∀ L : List Nat, L.Nodup → (∀ d ∈ L, d ∣ n) → L.length ≤ b
theorem db_one : DB 1 1 := fun L nd h => by
  match L, nd, h with
  | [], _, _ => simp
  | [a], _, _ => simp
  | a :: b :: r, nd, h =>
    have ha := Nat.dvd_one.mp (h a (by simp))
    have hb := Nat.dvd_one.mp (h b (by simp))
    subst ha hb
    simp at nd
theorem db_step {p m x b c : Nat} (p0 : 0 < p) (co : ∀ d, d ∣ p * x → ¬ p ∣ d → d ∣ m) (h1 : DB x c) (h2 : DB m b) : DB (p * x) (c + b) := fun L nd h => by
  have e := List.length_eq_countP_add_countP (fun d => decide (p ∣ d)) (l := L)
  rw [List.countP_eq_length_filter, List.countP_eq_length_filter] at e
  have q1 : ((L.filter fun d => decide (p ∣ d)).map (· / p)).length ≤ c := by
    refine h1 _ ?_ ?_
    · refine List.pairwise_map.mpr (List.Pairwise.imp_of_mem ?_ (nd.filter _))
      intro a b ha hb ne e
      have ha := of_decide_eq_true (List.mem_filter.mp ha).2
      have hb := of_decide_eq_true (List.mem_filter.mp hb).2
      apply ne
      rw [← Nat.div_mul_cancel ha, ← Nat.div_mul_cancel hb, e]
    · intro d hd
      obtain ⟨y, hy, rfl⟩ := List.mem_map.mp hd
      obtain ⟨y1, y2⟩ := List.mem_filter.mp hy
      have y2 := of_decide_eq_true y2
      have := h y y1
      rw [← Nat.div_mul_cancel y2, Nat.mul_comm] at this
      exact Nat.dvd_of_mul_dvd_mul_left p0 this
  rw [List.length_map] at q1
  have q2 : (L.filter fun d => decide ¬ (decide (p ∣ d)) = true).length ≤ b := by
    refine h2 _ (nd.filter _) fun d hd => ?_
    obtain ⟨y1, y2⟩ := List.mem_filter.mp hd
    exact co d (h d y1) (by simpa using y2)
  omega
def IsPr (p : Nat) : Prop := 2 ≤ p ∧ ∀ g, g ∣ p → g = 1 ∨ g = p
theorem pr_co {p d x : Nat} (hp : IsPr p) (hd : ¬ p ∣ d) (h : d ∣ p * x) : d ∣ x := by
  have c : Nat.Coprime d p := by
    rcases hp.2 (Nat.gcd d p) (Nat.gcd_dvd_right d p) with e | e
    · exact e
    · exact (hd (e ▸ Nat.gcd_dvd_left d p)).elim
  exact c.dvd_of_dvd_mul_left h
theorem pr_pow {p d m : Nat} (hp : IsPr p) (hd : ¬ p ∣ d) : ∀ a, d ∣ p ^ a * m → d ∣ m
  | 0, h => by simpa using h
  | a + 1, h => pr_pow hp hd a (pr_co hp hd (by rw [Nat.pow_succ, Nat.mul_comm (p ^ a) p, Nat.mul_assoc] at h; exact h))
theorem db_pow {p m b : Nat} (hp : IsPr p) (h : DB m b) : ∀ a, DB (p ^ a * m) ((a + 1) * b)
  | 0 => by simpa using h
  | a + 1 => by
    have e : p ^ (a + 1) * m = p * (p ^ a * m) := by rw [Nat.pow_succ, Nat.mul_comm (p ^ a) p, Nat.mul_assoc]
    have e2 : (a + 1 + 1) * b = (a + 1) * b + b := by rw [Nat.add_mul (a + 1) 1 b, Nat.one_mul]
    rw [e, e2]
    exact db_step (by have := hp.1; omega) (fun d h1 h2 => pr_pow hp h2 (a + 1) (by rw [e]; exact h1)) (db_pow hp h a) h
theorem take_out {p : Nat} (hp : 2 ≤ p) : ∀ n, 0 < n → ∃ a m, n = p ^ a * m ∧ ¬ p ∣ m ∧ 0 < m := by
  intro n
  induction n using Nat.strongRecOn with
  | ind n ih =>
    intro n0
    by_cases h : p ∣ n
    · obtain ⟨k, rfl⟩ := h
      have k0 : 0 < k := by
        rcases Nat.eq_zero_or_pos k with z | z
        · subst z; simp at n0
        · exact z
      have lt : k < p * k := by
        have : 2 * k ≤ p * k := Nat.mul_le_mul_right k hp
        omega
      obtain ⟨a, m, e, h1, h2⟩ := ih k lt k0
      exact ⟨a + 1, m, by rw [Nat.pow_succ, Nat.mul_comm (p ^ a) p, Nat.mul_assoc, ← e], h1, h2⟩
    · exact ⟨0, n, by simp, h, n0⟩
theorem least_dv {m : Nat} : ∀ d, 2 ≤ d → d ∣ m → ∃ p, 2 ≤ p ∧ p ∣ m ∧ ∀ g, 2 ≤ g → g ∣ m → p ≤ g := by
  intro d
  induction d using Nat.strongRecOn with
  | ind d ih =>
    intro h1 h2
    by_cases z : ∃ g, 2 ≤ g ∧ g ∣ m ∧ g < d
    · obtain ⟨g, g1, g2, g3⟩ := z
      exact ih g g3 g1 g2
    · refine ⟨d, h1, h2, fun g g1 g2 => ?_⟩
      apply Decidable.byContradiction
      intro q
      exact z ⟨g, g1, g2, by omega⟩
theorem cube_le {x y : Nat} (h : x ≤ y) : x ^ 3 ≤ y ^ 3 := Nat.pow_le_pow_left h 3
theorem db_rough : ∀ m, 0 < m → (∀ d, 2 ≤ d → d ∣ m → 8 ≤ d) → ∃ b, DB m b ∧ b ^ 3 ≤ m := by
  intro m
  induction m using Nat.strongRecOn with
  | ind m ih =>
    intro m0 hr
    by_cases h1 : m = 1
    · subst h1; exact ⟨1, db_one, by simp⟩
    · obtain ⟨p, p2, pm, pl⟩ := least_dv (m := m) m (by omega) (Nat.dvd_refl m)
      have hp : IsPr p := ⟨p2, fun g hg => by
        have g0 : 0 < g := Nat.pos_of_dvd_of_pos hg (by omega)
        by_cases g1 : g = 1
        · exact .inl g1
        · have := pl g (by omega) (Nat.dvd_trans hg pm)
          have := Nat.le_of_dvd (by omega) hg
          exact .inr (by omega)⟩
      obtain ⟨a, k, e, nk, k0⟩ := take_out p2 m m0
      have a1 : 1 ≤ a := by
        rcases Nat.eq_zero_or_pos a with z | z
        · subst z
          rw [Nat.pow_zero, Nat.one_mul] at e
          exact (nk (e ▸ pm)).elim
        · exact z
      have p8 := hr p p2 pm
      have pa : 2 ≤ p ^ a := by
        have : p ^ 1 ≤ p ^ a := Nat.pow_le_pow_right (by omega) a1
        simp at this
        omega
      have km : k < m := by
        have : 2 * k ≤ p ^ a * k := Nat.mul_le_mul_right k pa
        omega
      obtain ⟨b, hb, hc⟩ := ih k km k0 fun d d2 dk => hr d d2 (Nat.dvd_trans dk ⟨p ^ a, by rw [e, Nat.mul_comm]⟩)
      refine ⟨(a + 1) * b, by rw [e]; exact db_pow hp hb a, ?_⟩
      rw [e, Nat.mul_pow]
      refine Nat.mul_le_mul ?_ hc
      have l1 : a + 1 ≤ 2 ^ a := Nat.lt_two_pow_self
      have l2 := cube_le l1
      have l3 : (2 ^ a) ^ 3 = 8 ^ a := by rw [← Nat.pow_mul, Nat.mul_comm, Nat.pow_mul]
      have l4 : 8 ^ a ≤ p ^ a := Nat.pow_le_pow_left p8 a
      omega
theorem c3 (x : Nat) : x ^ 3 = x * x * x := by rw [Nat.pow_succ, Nat.pow_succ, Nat.pow_succ, Nat.pow_zero, Nat.one_mul]
theorem grow {x q k : Nat} (h : (x + 1) ^ 3 ≤ q * x ^ 3) {u v : Nat} (h1 : u * x ^ 3 ≤ v * q ^ k) : u * (x + 1) ^ 3 ≤ v * q ^ (k + 1) := by
  have a1 : u * (x + 1) ^ 3 ≤ u * (q * x ^ 3) := Nat.mul_le_mul_left u h
  have a2 : q * (u * x ^ 3) ≤ q * (v * q ^ k) := Nat.mul_le_mul_left q h1
  have e1 : u * (q * x ^ 3) = q * (u * x ^ 3) := Nat.mul_left_comm u q _
  have e2 : q * (v * q ^ k) = v * q ^ (k + 1) := by rw [Nat.pow_succ, Nat.mul_left_comm, Nat.mul_comm q]
  omega
theorem cube_step {x : Nat} : (x + 1) ^ 3 = x ^ 3 + 3 * (x * x) + 3 * x + 1 := by
  simp only [c3, Nat.add_mul, Nat.mul_add, Nat.one_mul, Nat.mul_one]
  omega
theorem pw2 : ∀ a, 1 * (a + 1) ^ 3 ≤ 8 * 2 ^ a
  | 0 => by decide
  | 1 => by decide
  | 2 => by decide
  | 3 => by decide
  | a + 4 => grow (by
      rw [cube_step]
      have e : (a + 3 + 1) ^ 3 = (a + 4) * ((a + 4) * (a + 4)) := by rw [c3, Nat.mul_assoc]
      have l : 4 * ((a + 4) * (a + 4)) ≤ (a + 4) * ((a + 4) * (a + 4)) := Nat.mul_le_mul_right _ (by omega)
      have l2 : 4 * (a + 4) ≤ (a + 4) * (a + 4) := Nat.mul_le_mul_right _ (by omega)
      rw [show a + 3 + 1 = a + 4 from rfl] at *
      omega) (pw2 (a + 3))
theorem grow3 {x q : Nat} (hq : 3 ≤ q) (hx : 3 ≤ x) : (x + 1) ^ 3 ≤ q * x ^ 3 := by
  rw [cube_step]
  have e : x ^ 3 = x * (x * x) := by rw [c3, Nat.mul_assoc]
  have l : 3 * (x * x) ≤ x * (x * x) := Nat.mul_le_mul_right _ hx
  have l2 : 3 * x ≤ x * x := Nat.mul_le_mul_right _ hx
  have l3 : 3 * x ^ 3 ≤ q * x ^ 3 := Nat.mul_le_mul_right _ hq
  have l4 : 3 * 3 ≤ 3 * x := Nat.mul_le_mul_left _ hx
  omega
theorem pw3 : ∀ a, 1 * (a + 1) ^ 3 ≤ 3 * 3 ^ a
  | 0 => by decide
  | 1 => by decide
  | 2 => by decide
  | a + 3 => grow (grow3 (by omega) (by omega)) (pw3 (a + 2))
theorem pw5 : ∀ a, 5 * (a + 1) ^ 3 ≤ 8 * 5 ^ a
  | 0 => by decide
  | 1 => by decide
  | 2 => by decide
  | a + 3 => grow (grow3 (by omega) (by omega)) (pw5 (a + 2))
theorem pw7 : ∀ a, 7 * (a + 1) ^ 3 ≤ 8 * 7 ^ a
  | 0 => by decide
  | 1 => by decide
  | 2 => by decide
  | a + 3 => grow (grow3 (by omega) (by omega)) (pw7 (a + 2))
theorem pr_of {p : Nat} (h2 : 2 ≤ p) (h : ∀ g, g < p → g = 0 ∨ g = 1 ∨ p % g ≠ 0) : IsPr p := ⟨h2, fun g hg => by
  have g0 : 0 < g := Nat.pos_of_dvd_of_pos hg (by omega)
  have gp := Nat.le_of_dvd (by omega) hg
  by_cases e : g = p
  · exact .inr e
  · rcases h g (by omega) with z | z | z
    · omega
    · exact .inl z
    · exact (z (Nat.mod_eq_zero_of_dvd hg)).elim⟩
theorem pr2 : IsPr 2 := pr_of (by decide) (by decide)
theorem pr3 : IsPr 3 := pr_of (by decide) (by decide)
theorem pr5 : IsPr 5 := pr_of (by decide) (by decide)
theorem pr7 : IsPr 7 := pr_of (by decide) (by decide)
theorem db_all (n : Nat) (n0 : 0 < n) : ∃ b, DB n b ∧ 35 * b ^ 3 ≤ 1536 * n := by
  obtain ⟨a2, m2, e2, k2, z2⟩ := take_out (p := 2) (by decide) n n0
  obtain ⟨a3, m3, e3, k3, z3⟩ := take_out (p := 3) (by decide) m2 z2
  obtain ⟨a5, m5, e5, k5, z5⟩ := take_out (p := 5) (by decide) m3 z3
  obtain ⟨a7, m7, e7, k7, z7⟩ := take_out (p := 7) (by decide) m5 z5
  have d5 : m7 ∣ m5 := ⟨7 ^ a7, by rw [e7, Nat.mul_comm]⟩
  have d3 : m7 ∣ m3 := Nat.dvd_trans d5 ⟨5 ^ a5, by rw [e5, Nat.mul_comm]⟩
  have d2 : m7 ∣ m2 := Nat.dvd_trans d3 ⟨3 ^ a3, by rw [e3, Nat.mul_comm]⟩
  obtain ⟨b, hb, hc⟩ := db_rough m7 z7 fun d h1 h2 => by
    apply Decidable.byContradiction
    intro h8
    have n2 : ¬ 2 ∣ d := fun z => k2 (Nat.dvd_trans z (Nat.dvd_trans h2 d2))
    have n3 : ¬ 3 ∣ d := fun z => k3 (Nat.dvd_trans z (Nat.dvd_trans h2 d3))
    have n5 : ¬ 5 ∣ d := fun z => k5 (Nat.dvd_trans z (Nat.dvd_trans h2 d5))
    have n7 : ¬ 7 ∣ d := fun z => k7 (Nat.dvd_trans z h2)
    have c : d = 2 ∨ d = 3 ∨ d = 4 ∨ d = 5 ∨ d = 6 ∨ d = 7 := by clear n2 n3 n5 n7; omega
    rcases c with rfl | rfl | rfl | rfl | rfl | rfl
    · exact n2 (by decide)
    · exact n3 (by decide)
    · exact n2 (by decide)
    · exact n5 (by decide)
    · exact n2 (by decide)
    · exact n7 (by decide)
  have h7 := db_pow pr7 hb a7
  rw [← e7] at h7
  have h5 := db_pow pr5 h7 a5
  rw [← e5] at h5
  have h3 := db_pow pr3 h5 a3
  rw [← e3] at h3
  have h2 := db_pow pr2 h3 a2
  rw [← e2] at h2
  refine ⟨_, h2, ?_⟩
  rw [Nat.mul_pow, Nat.mul_pow, Nat.mul_pow, Nat.mul_pow]
  have q2 := pw2 a2
  have q3 := pw3 a3
  have q5 := pw5 a5
  have q7 := pw7 a7
  have r7 : 7 * ((a7 + 1) ^ 3 * b ^ 3) ≤ 8 * m5 := by
    rw [e7, ← Nat.mul_assoc, ← Nat.mul_assoc]
    exact Nat.mul_le_mul q7 hc
  have r5 : 5 * 7 * ((a5 + 1) ^ 3 * ((a7 + 1) ^ 3 * b ^ 3)) ≤ 8 * 8 * m3 := by
    have := Nat.mul_le_mul q5 r7
    rw [e5]
    calc 5 * 7 * ((a5 + 1) ^ 3 * ((a7 + 1) ^ 3 * b ^ 3)) = 5 * (a5 + 1) ^ 3 * (7 * ((a7 + 1) ^ 3 * b ^ 3)) := by simp only [Nat.mul_comm, Nat.mul_left_comm, Nat.mul_assoc]
      _ ≤ 8 * 5 ^ a5 * (8 * m5) := this
      _ = 8 * 8 * (5 ^ a5 * m5) := by simp only [Nat.mul_comm, Nat.mul_left_comm, Nat.mul_assoc]
  have r3 : 35 * ((a3 + 1) ^ 3 * ((a5 + 1) ^ 3 * ((a7 + 1) ^ 3 * b ^ 3))) ≤ 192 * m2 := by
    have := Nat.mul_le_mul q3 r5
    rw [e3]
    calc 35 * ((a3 + 1) ^ 3 * ((a5 + 1) ^ 3 * ((a7 + 1) ^ 3 * b ^ 3))) = 1 * (a3 + 1) ^ 3 * (5 * 7 * ((a5 + 1) ^ 3 * ((a7 + 1) ^ 3 * b ^ 3))) := by rw [Nat.one_mul, Nat.mul_left_comm]
      _ ≤ 3 * 3 ^ a3 * (8 * 8 * m3) := this
      _ = 192 * (3 ^ a3 * m3) := by rw [show 192 = 3 * 64 from rfl, Nat.mul_assoc 3 64, Nat.mul_assoc 3, Nat.mul_left_comm (3 ^ a3)]
  have := Nat.mul_le_mul q2 r3
  have e : 8 * 2 ^ a2 * (192 * m2) = 1536 * n := by rw [e2, show 1536 = 8 * 192 from rfl, Nat.mul_assoc 8 192, Nat.mul_assoc 8, Nat.mul_left_comm (2 ^ a2)]
  rw [Nat.one_mul, Nat.mul_left_comm] at this
  omega
theorem divs_few {n : Nat} (n0 : 0 < n) (hn : n ≤ 10 ^ 9) {L : List Nat} (nd : L.Nodup) (h : ∀ d ∈ L, d ∣ n) : L.length ≤ 3527 := by
  obtain ⟨b, hb, hc⟩ := db_all n n0
  have l := hb L nd h
  apply Decidable.byContradiction
  intro z
  have l2 : 3528 ^ 3 ≤ b ^ 3 := cube_le (by omega)
  omega
end Mi
namespace Mi
open PySem PySem.Spec PyProof.Rows L2
def b_law_law_well (G : Nat → Fn) : SX :=
  sSeq (sAsg 2 (eIf (tBl (eBin ltD (eVar 1) (eApp (opN lenD) (aCons (eVar 0) (aNil))))) (eApp (opN intD) (aCons (eBin idxD (eVar 0) (eVar 1)) (aNil))) (eBin addD (eBin mulD (eC (.int 90001)) (eVar 1)) (eC (.int 613)))))
    (sSeq (sAsg 3 (eBin addD (eC (.int 104729)) (eBin mulD (eC (.int 7919)) (eVar 1))))
    (sSeq (sFor (gNm 4) (iSeq (eBin addD (eSl (eVar 0) (oNo) (oSo (eC (.int 6)))) (eApp mkLst (aCons (eVar 2) (aNil))))) (sSeq (sAsg 5 (eBin addD (eBin modD (eApp (opN intD) (aCons (eVar 4) (aNil))) (eC (.int 1000000000039))) (eApp (opN intD) (aCons (eBin ltD (eVar 4) (eC (.int 0))) (aNil)))))
    (sAsg 3 (eBin modD (eApp (opN intD) (aCons (eBin addD (eBin mulD (eVar 3) (eC (.int 1442695040888963407))) (eVar 5)) (aNil))) (eC (.int 2305843009213693951))))))
    (sRet (eApp mkMut (aCons (eIf (tBl (eBin geD (eApp (opN absD) (aCons (eVar 2) (aNil))) (eBin powD (eC (.int 10)) (eC (.int 18))))) (eApp (opN absD) (aCons (eVar 2) (aNil))) (eC (.int 0))) (aCons (eVar 3) (aCons (eC (.int 0)) (aNil))))))))
def b_law_law_draw (G : Nat → Fn) : SX :=
  sSeq (sIf (tBl (eBin gtD (eBin idxD (eVar 0) (eC (.int 0))) (eC (.int 0)))) (sSeq (sAsg 2 (eBin modD (eApp (opN intD) (aCons (eBin idxD (eVar 0) (eC (.int 0))) (aNil))) (eVar 1)))
    (sSeq (sAsgG (gSb (eVar 0) (eC (.int 0))) (eBin fdivD (eBin idxD (eVar 0) (eC (.int 0))) (eVar 1)))
    (sRet (eVar 2)))) (sNx))
    (sSeq (sAsgG (gSb (eVar 0) (eC (.int 2))) (eBin addD (eBin idxD (eVar 0) (eC (.int 2))) (eC (.int 1))))
    (sSeq (sAsg 3 (eApp (opN intD) (aCons (eBin addD (eBin mulD (eBin idxD (eVar 0) (eC (.int 2))) (eC (.int 86028157))) (eC (.int 77003))) (aNil))))
    (sSeq (sAsgG (gSb (eVar 0) (eC (.int 1))) (eBin modD (eApp (opN intD) (aCons (eBin addD (eBin mulD (eBin idxD (eVar 0) (eC (.int 1))) (eC (.int 636413622384679301))) (eVar 3)) (aNil))) (eC (.int 2305843009213693951))))
    (sRet (eBin modD (eApp (opN intD) (aCons (eBin fdivD (eBin idxD (eVar 0) (eC (.int 1))) (eC (.int 65536))) (aNil))) (eVar 1))))))
def b_law_law_is (G : Nat → Fn) : SX :=
  sRet (eAnd (eUn (isiD "int") (eVar 0)) (eAnd (eNot (eUn (isiD "bool") (eVar 0))) (eAnd (eBin leD (eVar 1) (eVar 0)) (eBin leD (eVar 0) (eVar 2)))))
def b_law_law_divisors (G : Nat → Fn) : SX :=
  sSeq (sAsg 1 (eApp mkLst (aNil)))
    (sSeq (sFor (gNm 2) (iRange2 (eC (.int 1)) (eC (.int 31624))) (sSeq (sIf (tBl (eBin gtD (eBin mulD (eVar 2) (eVar 2)) (eVar 0))) (sBrk) (sNx))
    (sIf (tBl (eBin eqD (eBin modD (eApp (opN intD) (aCons (eVar 0) (aNil))) (eVar 2)) (eC (.int 0)))) (sAsg 1 (eBin addD (eVar 1) (eApp mkLst (aCons (eVar 2) (aCons (eBin fdivD (eVar 0) (eVar 2)) (aNil)))))) (sNx))))
    (sRet (eUn srtsetD (eVar 1))))
def b_law_law_some_great (G : Nat → Fn) : SX :=
  sSeq (sAsg 2 (eApp (G 1001) (aCons (eVar 0) (aCons (eC (.int 8)) (aNil)))))
    (sSeq (sIf (tAn (tBl (eBin eqD (eVar 2) (eC (.int 0)))) (tBl (eBin eqD (eVar 1) (eC (.int 0))))) (sRet (eBin addD (eC (.int 1)) (eApp (G 1001) (aCons (eVar 0) (aCons (eBin powD (eC (.int 10)) (eC (.int 9))) (aNil)))))) (sNx))
    (sSeq (sIf (tAn (tBl (eBin eqD (eVar 2) (eC (.int 1)))) (tBl (eBin eqD (eVar 1) (eC (.int 0))))) (sRet (eBin idxD (eApp mkLst (aCons (eBin powD (eC (.int 10)) (eC (.int 9))) (aCons (eC (.int 735134400)) (aCons (eC (.int 999999999)) (aCons (eC (.int 65536)) (aCons (eC (.int 720)) (aCons (eC (.int 2520)) (aCons (eC (.int 4096)) (aCons (eC (.int 1)) (aNil)))))))))) (eApp (G 1001) (aCons (eVar 0) (aCons (eC (.int 8)) (aNil)))))) (sNx))
    (sSeq (sAsg 3 (eBin addD (eC (.int 1)) (eApp (G 1001) (aCons (eVar 0) (aCons (eBin idxD (eApp mkLst (aCons (eC (.int 12)) (aCons (eC (.int 60)) (aCons (eC (.int 400)) (aNil))))) (eApp (G 1001) (aCons (eVar 0) (aCons (eC (.int 3)) (aNil))))) (aNil))))))
    (sSeq (sFor (gNm 4) (iRange1 (eVar 2)) (sSeq (sAsg 5 (eBin idxD (eApp mkLst (aCons (eC (.int 2)) (aCons (eC (.int 3)) (aCons (eC (.int 2)) (aCons (eC (.int 5)) (aCons (eC (.int 3)) (aCons (eC (.int 7)) (aNil)))))))) (eApp (G 1001) (aCons (eVar 0) (aCons (eC (.int 6)) (aNil))))))
    (sIf (tBl (eBin leD (eBin mulD (eVar 3) (eVar 5)) (eC (.int 5000)))) (sAsg 3 (eBin mulD (eVar 3) (eVar 5))) (sNx))))
    (sRet (eVar 3))))))
def b_law_law_some_size (G : Nat → Fn) : SX :=
  sSeq (sAsg 3 (eApp (G 1001) (aCons (eVar 0) (aCons (eC (.int 4)) (aNil)))))
    (sSeq (sIf (tBl (eBin eqD (eVar 3) (eC (.int 0)))) (sRet (eBin addD (eC (.int 1)) (eApp (G 1001) (aCons (eVar 0) (aCons (eVar 1) (aNil)))))) (sNx))
    (sSeq (sIf (tBl (eBin eqD (eVar 3) (eC (.int 1)))) (sRet (eApp (opN min2D) (aCons (eVar 1) (aCons (eBin addD (eC (.int 1)) (eApp (G 1001) (aCons (eVar 0) (aCons (eC (.int 8)) (aNil))))) (aNil))))) (sNx))
    (sSeq (sAsg 4 (eBin idxD (eVar 2) (eApp (G 1001) (aCons (eVar 0) (aCons (eApp (opN lenD) (aCons (eVar 2) (aNil))) (aNil))))))
    (sSeq (sAsg 5 (eBin mulD (eVar 4) (eBin addD (eC (.int 1)) (eApp (G 1001) (aCons (eVar 0) (aCons (eApp (opN min2D) (aCons (eC (.int 12)) (aCons (eBin fdivD (eVar 1) (eVar 4)) (aNil)))) (aNil)))))))
    (sSeq (sIf (tBl (eBin eqD (eVar 3) (eC (.int 3)))) (sAsg 5 (eBin subD (eBin addD (eVar 5) (eApp (G 1001) (aCons (eVar 0) (aCons (eC (.int 3)) (aNil))))) (eC (.int 1)))) (sNx))
    (sRet (eApp (opN min2D) (aCons (eVar 1) (aCons (eApp (opN max2D) (aCons (eC (.int 1)) (aCons (eVar 5) (aNil)))) (aNil))))))))))
def b_law_law_some_times (G : Nat → Fn) : SX :=
  sSeq (sPar2 2 3 (aCons (eApp (G 1001) (aCons (eVar 0) (aCons (eC (.int 5)) (aNil)))) (aCons (eC (.int 0)) (aNil))))
    (sSeq (sFor (gNm 4) (iRange1 (eC (.int 4))) (sAsg 3 (eBin addD (eBin mulD (eVar 3) (eBin powD (eC (.int 10)) (eC (.int 9)))) (eApp (G 1001) (aCons (eVar 0) (aCons (eBin powD (eC (.int 10)) (eC (.int 9))) (aNil)))))))
    (sSeq (sIf (tBl (eBin ltD (eVar 2) (eC (.int 3)))) (sRet (eBin addD (eVar 1) (eBin modD (eApp (opN intD) (aCons (eVar 3) (aNil))) (eBin idxD (eApp mkLst (aCons (eC (.int 5)) (aCons (eC (.int 40)) (aCons (eBin powD (eC (.int 10)) (eC (.int 9))) (aNil))))) (eVar 2))))) (sNx))
    (sRet (eIf (tBl (eBin eqD (eVar 2) (eC (.int 3)))) (eBin subD (eBin powD (eC (.int 10)) (eC (.int 30))) (eBin modD (eApp (opN intD) (aCons (eVar 3) (aNil))) (eC (.int 3)))) (eApp (opN max2D) (aCons (eVar 1) (aCons (eBin modD (eApp (opN intD) (aCons (eVar 3) (aNil))) (eBin addD (eBin powD (eC (.int 10)) (eC (.int 30))) (eC (.int 1)))) (aNil))))))))
def b_law_law_same (G : Nat → Fn) : SX :=
  sSeq (sIf (tOrr (tNt (tTru (eUn (isiD "tuple") (eVar 0)))) (tBl (eBin neD (eApp (opN lenD) (aCons (eVar 0) (aNil))) (eApp (opN lenD) (aCons (eVar 1) (aNil)))))) (sRet (eC (.bl false))) (sNx))
    (sSeq (sFor (gNm 2) (iRange1 (eApp (opN lenD) (aCons (eVar 1) (aNil)))) (sIf (tOrr (tTru (eUn (isiD "bool") (eBin idxD (eVar 0) (eVar 2)))) (tOrr (tNt (tTru (eUn (isi2D "int" "str") (eBin idxD (eVar 0) (eVar 2))))) (tBl (eBin neD (eBin idxD (eVar 0) (eVar 2)) (eBin idxD (eVar 1) (eVar 2)))))) (sRet (eC (.bl false))) (sNx)))
    (sRet (eC (.bl true))))
def b_law_law_is_pair (G : Nat → Fn) : SX :=
  sSeq (sIf (tOrr (tNt (tTru (eUn (isiD "tuple") (eVar 0)))) (tOrr (tBl (eBin neD (eApp (opN lenD) (aCons (eVar 0) (aNil))) (eC (.int 2)))) (tNt (tTru (eApp (G 1007) (aCons (eBin idxD (eVar 0) (eC (.int 0))) (aCons (eVar 1) (aNil)))))))) (sRet (eC (.bl false))) (sNx))
    (sRet (eBin isD (eApp (G 109) (aCons (eBin idxD (eVar 0) (eC (.int 0))) (aCons (eBin idxD (eVar 0) (eC (.int 1))) (aNil)))) (eC (.bl true))))
def b_law_law_up (G : Nat → Fn) : SX :=
  sRet (eBin fdivD (eBin subD (eBin addD (eVar 0) (eVar 1)) (eC (.int 1))) (eVar 1))
def b_law_law_numbers (G : Nat → Fn) : SX :=
  sSeq (sAsg 4 (eDspL [.inr "least", .inr "fold", .inr "reach", .inr "apart"] (aCons (eApp mkMut (aNil)) (aCons (eApp mkMut (aNil)) (aCons (eApp mkMut (aNil)) (aCons (eApp mkMut (aNil)) (aNil)))))))
    (sSeq (sFor (gNm 5) (iSeq (eVar 3)) (sSeq (sPar2 6 7 (aCons (eLc [8] (bd1 8) (iSeq (eVar 1)) (tYs) (eApp (G 1009) (aCons (eVar 8) (aCons (eVar 5) (aNil))))) (aCons (eBin fdivD (eVar 0) (eVar 5)) (aNil))))
    (sSeq (sExp (eApnd (eIdxR (eVar 4) (eC (.str "least"))) (eBin mulD (eBin subD (eBin addD (eBin idxD (eVar 6) (eC (.int 0))) (eBin idxD (eVar 6) (eC (.int 1)))) (eC (.int 1))) (eVar 5))))
    (sSeq (sExp (eApnd (eIdxR (eVar 4) (eC (.str "fold"))) (eBin mulD (eBin addD (eBin subD (eBin mulD (eVar 2) (eBin idxD (eVar 6) (eC (.int 0)))) (eVar 2)) (eC (.int 1))) (eVar 5))))
    (sSeq (sExp (eApnd (eIdxR (eVar 4) (eC (.str "reach"))) (eBin mulD (eUn negD (eApp (G 1009) (aCons (eBin subD (eVar 7) (eC (.int 1))) (aCons (eVar 2) (aNil))))) (eVar 5))))
    (sExp (eApnd (eIdxR (eVar 4) (eC (.str "apart"))) (eBin mulD (eUn negD (eBin addD (eBin fdivD (eBin subD (eVar 5) (eC (.int 2))) (eBin addD (eBin mulD (eC (.int 2)) (eVar 2)) (eC (.int 1)))) (eC (.int 1)))) (eVar 7)))))))))
    (sRet (eFrzR (eVar 4))))
def b_law_law_made_right (G : Nat → Fn) : SX :=
  sSeq (sIf (tOrr (tNt (tTru (eApp (G 1008) (aCons (eVar 0) (aCons (eVar 1) (aNil)))))) (tOrr (tNt (tTru (eApp (G 1002) (aCons (eBin idxD (eVar 0) (eC (.int 1))) (aCons (eC (.int 1)) (aCons (eVar 4) (aNil))))))) (tBl (eBin notinD (eBin idxD (eVar 0) (eC (.int 1))) (eVar 2))))) (sRet (eC (.bl false))) (sNx))
    (sSeq (sAsg 5 (eApp (opN minD1) (aCons (eVar 3) (aNil))))
    (sSeq (sIf (tBl (eBin neD (eBin idxD (eVar 3) (eIdx (eVar 2) (eBin idxD (eVar 0) (eC (.int 1))))) (eVar 5))) (sRet (eC (.bl false))) (sNx))
    (sSeq (sIf (tBl (eBin gtD (eVar 4) (eC (.int 100000)))) (sRet (eC (.bl true))) (sNx))
    (sSeq (sFor (gNm 6) (iRange1 (eApp (opN min2D) (aCons (eC (.int 40)) (aCons (eApp (opN lenD) (aCons (eVar 2) (aNil))) (aNil))))) (sSeq (sAsg 7 (eApp (G 109) (aCons (eVar 1) (aCons (eBin idxD (eVar 2) (eVar 6)) (aNil)))))
    (sIf (tOrr (tNt (tTru (eUn (isiD "bool") (eVar 7)))) (tBl (eBin neD (eVar 7) (eBin eqD (eBin idxD (eVar 3) (eVar 6)) (eVar 5))))) (sRet (eC (.bl false))) (sNx))))
    (sSeq (sFor (gNm 8) (iSeq (eApp mkLst (aCons (eUn negD (eC (.int 1))) (aCons (eC (.int 1)) (aNil))))) (sIf (tBl (eBin isnotD (eApp (G 109) (aCons (eBin addD (eSl (eVar 1) (oNo) (oSo (eUn negD (eC (.int 1))))) (eApp mkTup (aCons (eBin addD (eBin idxD (eVar 1) (eUn negD (eC (.int 1)))) (eVar 8)) (aNil)))) (aCons (eBin idxD (eVar 0) (eC (.int 1))) (aNil)))) (eC (.bl false)))) (sRet (eC (.bl false))) (sNx)))
    (sRet (eC (.bl true))))))))
def b_law_law_right (G : Nat → Fn) : SX :=
  sSeq (sPar2 2 3 (aCons (eApp (G 1004) (aCons (eVar 0) (aCons (eVar 1) (aNil)))) (aCons (eApp (G 1006) (aCons (eVar 0) (aCons (eC (.int 1)) (aNil)))) (aNil))))
    (sSeq (sAsg 4 (eApp (G 1003) (aCons (eVar 2) (aNil))))
    (sSeq (sAsg 5 (eApp mkLst (aCons (eApp (G 1005) (aCons (eVar 0) (aCons (eVar 2) (aCons (eVar 4) (aNil))))) (aCons (eApp (G 1005) (aCons (eVar 0) (aCons (eVar 2) (aCons (eVar 4) (aNil))))) (aNil)))))
    (sSeq (sAsg 6 (eApp (G 1010) (aCons (eVar 2) (aCons (eVar 5) (aCons (eVar 3) (aCons (eVar 4) (aNil)))))))
    (sSeq (sFor (gNm 7) (iRange1 (eIf (tBl (eBin leD (eVar 2) (eC (.int 100000)))) (eC (.int 2)) (eC (.int 1)))) (sSeq (sAsg 8 (eApp mkTup (aCons (eC (.str "least")) (aCons (eVar 2) (aCons (eBin idxD (eVar 5) (eC (.int 0))) (aCons (eBin idxD (eVar 5) (eC (.int 1))) (aCons (eApp (opN minD1) (aCons (eBin idxKD (eVar 6) (eC (.str "least"))) (aNil))) (aNil))))))))
    (sSeq (sIf (tNt (tTru (eApp (G 1011) (aCons (eApp (G 124) (aCons (eVar 2) (aCons (eBin idxD (eVar 5) (eC (.int 0))) (aCons (eBin idxD (eVar 5) (eC (.int 1))) (aNil))))) (aCons (eVar 8) (aCons (eVar 4) (aCons (eBin idxKD (eVar 6) (eC (.str "least"))) (aCons (eVar 2) (aNil))))))))) (sRet (eC (.bl false))) (sNx))
    (sSeq (sAsg 8 (eApp mkTup (aCons (eC (.str "fold")) (aCons (eVar 2) (aCons (eBin idxD (eVar 5) (eC (.int 0))) (aCons (eVar 3) (aCons (eApp (opN minD1) (aCons (eBin idxKD (eVar 6) (eC (.str "fold"))) (aNil))) (aNil))))))))
    (sSeq (sIf (tNt (tTru (eApp (G 1011) (aCons (eApp (G 125) (aCons (eVar 2) (aCons (eBin idxD (eVar 5) (eC (.int 0))) (aCons (eVar 3) (aNil))))) (aCons (eVar 8) (aCons (eVar 4) (aCons (eBin idxKD (eVar 6) (eC (.str "fold"))) (aCons (eVar 2) (aNil))))))))) (sRet (eC (.bl false))) (sNx))
    (sSeq (sAsg 8 (eApp mkTup (aCons (eC (.str "reach")) (aCons (eVar 2) (aCons (eVar 3) (aCons (eBin subD (eC (.int 1)) (eApp (opN minD1) (aCons (eBin idxKD (eVar 6) (eC (.str "reach"))) (aNil)))) (aNil)))))))
    (sSeq (sIf (tNt (tTru (eApp (G 1011) (aCons (eApp (G 126) (aCons (eVar 2) (aCons (eVar 3) (aNil)))) (aCons (eVar 8) (aCons (eVar 4) (aCons (eBin idxKD (eVar 6) (eC (.str "reach"))) (aCons (eVar 2) (aNil))))))))) (sRet (eC (.bl false))) (sNx))
    (sSeq (sAsg 8 (eApp mkTup (aCons (eC (.str "apart")) (aCons (eVar 2) (aCons (eVar 3) (aCons (eUn negD (eApp (opN minD1) (aCons (eBin idxKD (eVar 6) (eC (.str "apart"))) (aNil)))) (aNil)))))))
    (sIf (tNt (tTru (eApp (G 1011) (aCons (eApp (G 127) (aCons (eVar 2) (aCons (eVar 3) (aNil)))) (aCons (eVar 8) (aCons (eVar 4) (aCons (eBin idxKD (eVar 6) (eC (.str "apart"))) (aCons (eVar 2) (aNil))))))))) (sRet (eC (.bl false))) (sNx))))))))))
    (sSeq (sIf (tBl (eBin gtD (eVar 2) (eC (.int 100000)))) (sRet (eC (.bl true))) (sNx))
    (sSeq (sIf (tBl (eBin neD (eApp (G 124) (aCons (eVar 2) (aCons (eBin idxD (eVar 5) (eC (.int 0))) (aCons (eBin idxD (eVar 5) (eC (.int 1))) (aNil))))) (eApp (G 124) (aCons (eVar 2) (aCons (eBin idxD (eVar 5) (eC (.int 0))) (aCons (eBin idxD (eVar 5) (eC (.int 1))) (aNil))))))) (sRet (eC (.bl false))) (sNx))
    (sRet (eApp (G 1008) (aCons (eApp (G 125) (aCons (eVar 2) (aCons (eBin idxD (eVar 5) (eC (.int 1))) (aCons (eC (.int 0)) (aNil))))) (aCons (eApp mkTup (aCons (eC (.str "fold")) (aCons (eVar 2) (aCons (eBin idxD (eVar 5) (eC (.int 1))) (aCons (eC (.int 0)) (aCons (eC (.int 1)) (aNil))))))) (aNil)))))))))))
def b_law_law (G : Nat → Fn) : SX :=
  sSeq (sFor (gNm 1) (iRange1 (eApp (opN max2D) (aCons (eC (.int 2)) (aCons (eApp (opN min2D) (aCons (eApp (opN lenD) (aCons (eVar 0) (aNil))) (aCons (eC (.int 3)) (aNil)))) (aNil))))) (sIf (tNt (tTru (eApp (G 1012) (aCons (eApp (G 1000) (aCons (eVar 0) (aCons (eVar 1) (aNil)))) (aCons (eVar 1) (aNil)))))) (sRet (eC (.bl false))) (sNx)))
    (sRet (eC (.bl true)))
structure TL (tab : Nat → Option Body) : Prop where
  P : TP tab
  t1000 : tab 1000 = some (false, 2, 6, b_law_law_well)
  t1001 : tab 1001 = some (true, 2, 4, b_law_law_draw)
  t1002 : tab 1002 = some (true, 3, 3, b_law_law_is)
  t1003 : tab 1003 = some (true, 1, 3, b_law_law_divisors)
  t1004 : tab 1004 = some (true, 2, 6, b_law_law_some_great)
  t1005 : tab 1005 = some (true, 3, 6, b_law_law_some_size)
  t1006 : tab 1006 = some (true, 2, 5, b_law_law_some_times)
  t1007 : tab 1007 = some (true, 2, 3, b_law_law_same)
  t1008 : tab 1008 = some (true, 2, 2, b_law_law_is_pair)
  t1009 : tab 1009 = some (true, 2, 2, b_law_law_up)
  t1010 : tab 1010 = some (true, 4, 9, b_law_law_numbers)
  t1011 : tab 1011 = some (true, 5, 9, b_law_law_made_right)
  t1012 : tab 1012 = some (true, 2, 9, b_law_law_right)
  t1013 : tab 1013 = some (true, 1, 2, b_law_law)
end Mi
namespace Mi
open PySem PySem.Spec PyProof.Rows L2
structure Wst where
  a : Int
  b : Int
  c : Int
def wl (w : Wst) : MO := .lst [.int w.a, .int w.b, .int w.c]
def WOk (w : Wst) (N : Int) : Prop := 0 ≤ w.a ∧ 0 ≤ w.b ∧ w.b < 2305843009213693951 ∧ 0 ≤ w.c ∧ w.c ≤ N
theorem WOk.mono {w : Wst} {N N' : Int} (h : WOk w N) (h2 : N ≤ N') : WOk w N' := ⟨h.1, h.2.1, h.2.2.1, h.2.2.2.1, by have := h.2.2.2.2; omega⟩
@[simp] theorem intD_b {p : Bool} : intD [.bl p] = some (.int (if p then 1 else 0)) := by cases p <;> rfl
section
variable {tab : Nat → Option Body} {n : Nat} {M l : MH}
theorem well_i (h : TL tab) {ns : List Int} {i : Nat} (hi : i < 1000000) : ∃ w, WOk w 0 ∧ GG tab (n + 1) 1000 [.d (.scr (ns.map .int)), .d (.int i)] M = some (.ok (.r M.length) (M ++ [wl w])) := by
  have key : wpo (GG tab (n + 1) 1000 [.d (.scr (ns.map .int)), .d (.int i)] M) (fun v M' => ∃ w, WOk w 0 ∧ v = .r M.length ∧ M' = M ++ [wl w]) noE := by
    refine (wpo_GG h.t1000).mpr ⟨rfl, ?_⟩
    simp only [b_law_law_well]
    rw [wps_seq, wps_asg]
    have cell : ∃ c : Int, wpo (eIf (tBl (eBin ltD (eVar 1) (eApp (opN lenD) (aCons (eVar 0) aNil)))) (eApp (opN intD) (aCons (eBin idxD (eVar 0) (eVar 1)) (aNil))) (eBin addD (eBin mulD (eC (.int 90001)) (eVar 1)) (eC (.int 613))) [some (.d (.scr (ns.map .int))), some (.d (.int i)), none, none, none, none] M) (fun v M1 => v = .d (.int c) ∧ M1 = M) noE := by
      by_cases hl : i < ns.length
      · refine ⟨ns[i], ?_⟩
        have e : atI (ns.map PD.int) (i : Int) = some (.int ns[i]) := atI_ok (by simp [hl])
        simp [hl, e]
      · refine ⟨90001 * i + 613, ?_⟩
        simp [hl]
        exact mulOk_of ⟨by omega, by omega⟩ ⟨by omega, by omega⟩
    obtain ⟨c, cell⟩ := cell
    refine wpo_by cell ?_
    rintro _ M1 ⟨rfl, e⟩
    rw [e]
    clear e M1
    rw [andThen_nx, wps_seq]
    simp
    refine ⟨mulOk_of ⟨by omega, by omega⟩ ⟨by omega, by omega⟩, ?_⟩
    rw [andThen_nx, wps_seq]
    have hc : cutD (ns.map PD.int) none (some 6) = (ns.take 6).map PD.int := by
      unfold cutD
      simp [HT.sIx]
    have l5 : (ns.take 6).length ≤ 6 := by simp; omega
    simp [hc, enOf]
    refine ⟨szOk_of (by simp at l5; omega), ?_⟩
    refine wps_forL (fun j ρ M' => ∃ (s : Int) (o1 o2 : Option VL), ρ = [some (.d (.scr (ns.map .int))), some (.d (.int i)), some (.d (.int c)), some (.d (.int s)), o1, o2] ∧ M' = M ∧ 0 ≤ s ∧ s < 2305843009213693951) ?_ ?_ ?_
    · exact ⟨_, _, _, rfl, rfl, by omega, by omega⟩
    · rintro j d ρ M' hd ⟨s, o1, o2, rfl, rfl, s0, s1⟩
      have hx : ∃ x, d = .int x := by
        have hm := List.mem_of_getElem? hd
        rw [← List.map_take] at hm
        rcases List.mem_append.mp hm with hm | hm
        · obtain ⟨x, _, e⟩ := List.mem_map.mp hm
          exact ⟨x, e.symm⟩
        · exact ⟨c, by simpa using hm⟩
      obtain ⟨x, rfl⟩ := hx
      simp
      rw [andThen_nx]
      simp
      refine ⟨mulOk_of ⟨by omega, by omega⟩ ⟨by omega, by omega⟩, ?_, ?_⟩
      · omega
      · omega
    · rintro ρ M' ⟨s, o1, o2, rfl, rfl, s0, s1⟩
      rw [andThen_nx]
      simp
      refine ⟨⟨by omega, by omega, by decide⟩, ?_⟩
      refine ifB_dec (fun hb => ?_) (fun hb => ?_)
      · rw [retM_mut (Nat.le_refl _) get_m0]
        refine ⟨⟨if c < 0 then -c else c, s, 0⟩, ⟨?_, s0, s1, by show (0 : Int) ≤ 0; omega, by show (0 : Int) ≤ 0; omega⟩, rfl, by simp [wl]⟩
        show 0 ≤ if c < 0 then -c else c
        split <;> omega
      · rw [retM_mut (Nat.le_refl _) get_m0]
        exact ⟨⟨0, s, 0⟩, ⟨by show (0 : Int) ≤ 0; omega, s0, s1, by show (0 : Int) ≤ 0; omega, by show (0 : Int) ≤ 0; omega⟩, rfl, by simp [wl]⟩
  obtain ⟨v, M', e, w, q, rfl, rfl⟩ := wpo_get key
  exact ⟨w, q, e⟩
theorem draw_i (h : TL tab) {w : Wst} {N : Int} (m : Int) (hw : WOk w N) (hN : N ≤ 10 ^ 9) (hm : 1 ≤ m ∧ m ≤ 10 ^ 40) : ∃ w' x, WOk w' (N + 1) ∧ 0 ≤ x ∧ x < m ∧ GG tab (n + 1) 1001 [.r M.length, .d (.int m)] (M ++ wl w :: l) = some (.ok (.d (.int x)) (M ++ wl w' :: l)) := by
  obtain ⟨a, b, c⟩ := w
  obtain ⟨h1, h2, h3, h4, h5⟩ := hw
  simp only at h1 h2 h3 h4 h5
  have key : wpo (GG tab (n + 1) 1001 [.r M.length, .d (.int m)] (M ++ wl ⟨a, b, c⟩ :: l)) (fun v M' => ∃ (w' : Wst) (x : Int), WOk w' (N + 1) ∧ 0 ≤ x ∧ x < m ∧ v = .d (.int x) ∧ M' = M ++ wl w' :: l) noE := by
    refine (wpo_GG h.t1001).mpr ⟨rfl, ?_⟩
    have tk : ∀ y : MO, (M ++ y :: l).take (M ++ wl ⟨a, b, c⟩ :: l).length = M ++ y :: l := fun y => by rw [List.take_of_length_le]; simp
    have tk2 : ∀ y : MO, (M ++ y :: l).take (M.length + (l.length + 1)) = M ++ y :: l := fun y => by rw [List.take_of_length_le]; simp
    simp only [b_law_law_draw]
    rw [wps_seq]
    simp [wl]
    refine ifB_dec (fun ha => ?_) (fun ha => ?_)
    · refine ⟨by omega, ?_⟩
      rw [andThen_nx, wps_seq]
      simp
      refine ⟨divOk_of (by omega) (by omega), ?_⟩
      simp [setX_w]
      rw [andThen_nx]
      simp [tk2]
      exact ⟨⟨a / m, b, c⟩, ⟨Int.ediv_nonneg h1 (by omega), h2, h3, h4, by show c ≤ N + 1; omega⟩, a % m, Int.emod_nonneg _ (by omega), Int.emod_lt_of_pos _ (by omega), rfl, rfl, rfl, rfl⟩
    · rw [andThen_nx, wps_seq]
      simp [setX_w]
      rw [andThen_nx, wps_seq]
      simp
      refine ⟨mulOk_of ⟨by omega, by omega⟩ ⟨by omega, by omega⟩, ?_⟩
      rw [andThen_nx, wps_seq]
      simp
      refine ⟨mulOk_of ⟨by omega, by omega⟩ ⟨by omega, by omega⟩, ?_⟩
      have b1 : 0 ≤ (b * 636413622384679301 + ((c + 1) * 86028157 + 77003)) % 2305843009213693951 := by omega
      have b2 : (b * 636413622384679301 + ((c + 1) * 86028157 + 77003)) % 2305843009213693951 < 2305843009213693951 := by omega
      generalize (b * 636413622384679301 + ((c + 1) * 86028157 + 77003)) % 2305843009213693951 = b' at *
      simp [setX_w]
      rw [andThen_nx]
      simp [tk2]
      refine ⟨divOk_of (by omega) (by omega), by omega, ?_⟩
      exact ⟨⟨a, b', c + 1⟩, ⟨h1, b1, b2, by show 0 ≤ c + 1; omega, by show c + 1 ≤ N + 1; omega⟩, b' / 65536 % m, Int.emod_nonneg _ (by omega), Int.emod_lt_of_pos _ (by omega), rfl, rfl, rfl, rfl⟩
  obtain ⟨v, M', e, w', x, q1, q2, q3, rfl, rfl⟩ := wpo_get key
  exact ⟨w', x, q1, q2, q3, e⟩
end
end Mi
namespace Mi
open PySem PySem.Spec PyProof.Rows L2
theorem ne_fl : ("fold" : Str) ≠ "least" := by decide
theorem ne_rl : ("reach" : Str) ≠ "least" := by decide
theorem ne_rf : ("reach" : Str) ≠ "fold" := by decide
theorem ne_al : ("apart" : Str) ≠ "least" := by decide
theorem ne_af : ("apart" : Str) ≠ "fold" := by decide
theorem ne_ar : ("apart" : Str) ≠ "reach" := by decide
theorem bq_fl : ((Str.ofString "fold") == (Str.ofString "least")) = false := by decide
theorem bq_rl : ((Str.ofString "reach") == (Str.ofString "least")) = false := by decide
theorem bq_rf : ((Str.ofString "reach") == (Str.ofString "fold")) = false := by decide
theorem bq_al : ((Str.ofString "apart") == (Str.ofString "least")) = false := by decide
theorem bq_af : ((Str.ofString "apart") == (Str.ofString "fold")) = false := by decide
theorem bq_ar : ((Str.ofString "apart") == (Str.ofString "reach")) = false := by decide
section
variable {tab : Nat → Option Body} {n : Nat} {M : MH} {c r s t : PD}
theorem sizes_fold (h : TP tab) (kc : Kn c) (kr : Kn r) (ks : Kn s) (kt : Kn t) : ∃ b, GG tab (n + 3) 110 [.d (.str "fold"), .d (.tup [c, r, s, t])] M = some (.ok (.d (.bl b)) M) ∧
    (b = true ↔ ∃ k x y z, c = .int k ∧ r = .int x ∧ s = .int y ∧ t = .int z ∧ 1 ≤ k ∧ k ≤ 10 ^ 9 ∧ 1 ≤ x ∧ x ≤ k ∧ 0 ≤ y ∧ y ≤ 10 ^ 30) := by
  have key : wpo (GG tab (n + 3) 110 [.d (.str "fold"), .d (.tup [c, r, s, t])] M) (fun v M' => ∃ b, v = .d (.bl b) ∧ M' = M ∧ (b = true ↔ ∃ k x y z, c = .int k ∧ r = .int x ∧ s = .int y ∧ t = .int z ∧ 1 ≤ k ∧ k ≤ 10 ^ 9 ∧ 1 ≤ x ∧ x ≤ k ∧ 0 ≤ y ∧ y ≤ 10 ^ 30)) noE := by
    refine (wpo_GG h.p110).mpr ⟨rfl, ?_⟩
    simp only [b_checker_are_sizes]
    rw [wps_seq]
    simp
    rw [andThen_nx, wps_seq]
    simp [k_isnum h kc, k_isint h kt]
    cases hc : numB c 1 1000000000 with
    | false =>
      simp
      rintro k rfl x hx y hy z hz h1 h2
      have : numB (.int k) 1 1000000000 = true := numB_iff.mpr ⟨k, rfl, h1, h2⟩
      rw [this] at hc
      cases hc
    | true =>
      obtain ⟨k, rfl, h1, h2⟩ := numB_iff.mp hc
      simp
      cases ht : asI t with
      | none =>
        simp
        rintro x hx y hy z rfl
        cases ht
      | some z =>
        obtain rfl := asI_some ht
        simp
        rw [andThen_nx, wps_seq]
        simp [ne_fl]
        rw [andThen_nx, wps_seq]
        simp [k_isnum h kr, k_isnum h ks]
        cases hr : numB r 1 k with
        | false =>
          simp
          rintro x rfl y hy _ _ h3 h4
          have : numB (.int x) 1 k = true := numB_iff.mpr ⟨x, rfl, h3, h4⟩
          rw [this] at hr
          cases hr
        | true =>
          obtain ⟨x, rfl, h3, h4⟩ := numB_iff.mp hr
          cases hs : numB s 0 1000000000000000000000000000000 with
          | false =>
            simp
            rintro y rfl _ _ _ _ h5
            refine Decidable.byContradiction fun h6 => ?_
            have : numB (.int y) 0 1000000000000000000000000000000 = true := numB_iff.mpr ⟨y, rfl, h5, by omega⟩
            rw [this] at hs
            cases hs
          | true =>
            obtain ⟨y, rfl, h5, h6⟩ := numB_iff.mp hs
            simp [h1, h2, h3, h4, h5, h6]
  obtain ⟨v, M', e, b, rfl, rfl, q⟩ := wpo_get key
  exact ⟨b, e, q⟩
theorem sizes_other (h : TP tab) {W : Str} (w1 : W ≠ "least") (w2 : W ≠ "fold") (kc : Kn c) (ks : Kn s) (kt : Kn t) : ∃ b, GG tab (n + 3) 110 [.d (.str W), .d (.tup [c, s, t])] M = some (.ok (.d (.bl b)) M) ∧
    (b = true ↔ ∃ k y z, c = .int k ∧ s = .int y ∧ t = .int z ∧ 1 ≤ k ∧ k ≤ 10 ^ 9 ∧ 1 ≤ y ∧ y ≤ 10 ^ 30) := by
  have key : wpo (GG tab (n + 3) 110 [.d (.str W), .d (.tup [c, s, t])] M) (fun v M' => ∃ b, v = .d (.bl b) ∧ M' = M ∧ (b = true ↔ ∃ k y z, c = .int k ∧ s = .int y ∧ t = .int z ∧ 1 ≤ k ∧ k ≤ 10 ^ 9 ∧ 1 ≤ y ∧ y ≤ 10 ^ 30)) noE := by
    refine (wpo_GG h.p110).mpr ⟨rfl, ?_⟩
    simp only [b_checker_are_sizes]
    rw [wps_seq]
    simp
    rw [andThen_nx, wps_seq]
    simp [k_isnum h kc, k_isint h kt]
    cases hc : numB c 1 1000000000 with
    | false =>
      simp
      rintro k rfl y hy z hz h1 h2
      have : numB (.int k) 1 1000000000 = true := numB_iff.mpr ⟨k, rfl, h1, h2⟩
      rw [this] at hc
      cases hc
    | true =>
      obtain ⟨k, rfl, h1, h2⟩ := numB_iff.mp hc
      simp
      cases ht : asI t with
      | none =>
        simp
        rintro y hy z rfl
        cases ht
      | some z =>
        obtain rfl := asI_some ht
        simp
        rw [andThen_nx, wps_seq]
        simp [w1]
        rw [andThen_nx, wps_seq]
        simp [w2]
        rw [andThen_nx]
        simp [k_isnum h ks]
        cases hs : numB s 1 1000000000000000000000000000000 with
        | false =>
          simp
          rintro y rfl _ _ h5
          refine Decidable.byContradiction fun h6 => ?_
          have : numB (.int y) 1 1000000000000000000000000000000 = true := numB_iff.mpr ⟨y, rfl, h5, by omega⟩
          rw [this] at hs
          cases hs
        | true =>
          obtain ⟨y, rfl, h5, h6⟩ := numB_iff.mp hs
          simp [h1, h2, h5, h6]
  obtain ⟨v, M', e, b, rfl, rfl, q⟩ := wpo_get key
  exact ⟨b, e, q⟩
abbrev kfF (x y : Int) : Int → Int := fun d => (y * (up x d - 1) + 1) * d
abbrev kfR (k y : Int) : Int → Int := fun d => up (k / d - 1) y * d
abbrev kfA (k y : Int) : Int → Int := fun d => ((d - 2) / (2 * y + 1) + 1) * (k / d)
theorem at_fold (h : TP tab) {k x y z d : Int} (d1 : 1 ≤ d) (dk : d ≤ k) (k2 : k ≤ 10 ^ 9) (hx : 1 ≤ x ∧ x ≤ k) (hy : 0 ≤ y ∧ y ≤ 10 ^ 30) :
    GG tab (n + 2) 112 [.d (.str "fold"), .d (.tup [.int k, .int x, .int y, .int z]), .d (.int d)] M = some (.ok (.d (.int (kfF x y d))) M) := by
  refine eq_of_wpo ((wpo_GG h.p112).mpr ⟨rfl, ?_⟩)
  have u1 := up_id' (a := x) (d := d) (by omega) d1
  have v1 := up_pos (a := x) (d := d) (by omega) (by omega)
  have b1 : 0 ≤ y * (up x d - 1) := Int.mul_nonneg (by omega) (by omega)
  have b2 : y * (up x d - 1) ≤ 10 ^ 30 * 10 ^ 9 := Int.mul_le_mul (by omega) (by omega) (by omega) (by omega)
  simp only [b_checker_number_at]
  rw [wps_seq]
  simp [ne_fl]
  rw [andThen_nx, wps_seq]
  simp [k_up h (a := x) (d := d) (by omega) (by omega)]
  exact ⟨mulOk_of ⟨by omega, by omega⟩ ⟨by omega, by omega⟩, mulOk_of ⟨by omega, by omega⟩ ⟨by omega, by omega⟩⟩
theorem at_reach (h : TP tab) {k y z d : Int} (d1 : 1 ≤ d) (dk : d ≤ k) (k2 : k ≤ 10 ^ 9) (hy : 1 ≤ y ∧ y ≤ 10 ^ 30) :
    GG tab (n + 2) 112 [.d (.str "reach"), .d (.tup [.int k, .int y, .int z]), .d (.int d)] M = some (.ok (.d (.int (kfR k y d))) M) := by
  refine eq_of_wpo ((wpo_GG h.p112).mpr ⟨rfl, ?_⟩)
  have c1 : 1 ≤ k / d := by
    rw [Int.le_ediv_iff_mul_le (by omega)]
    omega
  have c2 : k / d ≤ k := Int.ediv_le_self _ (by omega)
  have u1 := up_id' (a := k / d - 1) (d := y) (by omega) hy.1
  have v1 : 0 ≤ up (k / d - 1) y := by
    by_cases z : k / d - 1 = 0
    · rw [z, up_zero]; omega
    · have := up_pos (a := k / d - 1) (d := y) (by omega) (by omega); omega
  simp only [b_checker_number_at]
  rw [wps_seq]
  simp [ne_rl]
  rw [andThen_nx, wps_seq]
  simp [ne_rf]
  rw [andThen_nx, wps_seq]
  simp
  refine ⟨divOk_of (by omega) (by omega), ?_⟩
  rw [andThen_nx, wps_seq]
  simp [k_up h (a := k / d - 1) (d := y) (by omega) (by omega)]
  exact mulOk_of ⟨by omega, by omega⟩ ⟨by omega, by omega⟩
theorem apart_bd {d y : Int} (d1 : 1 ≤ d) (hy : 1 ≤ y) : -1 ≤ (d - 2) / (2 * y + 1) ∧ (d - 2) / (2 * y + 1) < d := by
  constructor
  · rw [Int.le_ediv_iff_mul_le (by omega)]
    omega
  · rw [Int.ediv_lt_iff_lt_mul (by omega)]
    have : d * 1 ≤ d * (2 * y + 1) := Int.mul_le_mul_of_nonneg_left (by omega) (by omega)
    omega
theorem at_apart (h : TP tab) {k y z d : Int} (d1 : 1 ≤ d) (dk : d ≤ k) (k2 : k ≤ 10 ^ 9) (hy : 1 ≤ y ∧ y ≤ 10 ^ 30) :
    GG tab (n + 2) 112 [.d (.str "apart"), .d (.tup [.int k, .int y, .int z]), .d (.int d)] M = some (.ok (.d (.int (kfA k y d))) M) := by
  refine eq_of_wpo ((wpo_GG h.p112).mpr ⟨rfl, ?_⟩)
  have c1 : 1 ≤ k / d := by
    rw [Int.le_ediv_iff_mul_le (by omega)]
    omega
  have c2 : k / d ≤ k := Int.ediv_le_self _ (by omega)
  obtain ⟨u1, u2⟩ := apart_bd d1 hy.1
  simp only [b_checker_number_at]
  rw [wps_seq]
  simp [ne_al]
  rw [andThen_nx, wps_seq]
  simp [ne_af]
  rw [andThen_nx, wps_seq]
  simp
  refine ⟨divOk_of (by omega) (by omega), ?_⟩
  rw [andThen_nx, wps_seq]
  simp [ne_ar]
  rw [andThen_nx]
  simp
  exact ⟨mulOk_of ⟨by omega, by omega⟩ ⟨by omega, by omega⟩, divOk_of (by omega) (by omega), mulOk_of ⟨by omega, by omega⟩ ⟨by omega, by omega⟩⟩
def DueF (c r s t p : PD) : Prop := ∃ k x y z q, c = .int k ∧ r = .int x ∧ s = .int y ∧ t = .int z ∧ p = .int q ∧ 1 ≤ k ∧ k ≤ 10 ^ 9 ∧ 1 ≤ x ∧ x ≤ k ∧ 0 ≤ y ∧ y ≤ 10 ^ 30 ∧ 1 ≤ q ∧ q ≤ k ∧ q ∣ k ∧ z = kfF x y q ∧ ∀ w, 0 < w → w ∣ k → kfF x y q ≤ kfF x y w
theorem accepts_fold (h : TP tab) {p : PD} (kc : Kn c) (kr : Kn r) (ks : Kn s) (kt : Kn t) (kp : Kn p) : ∃ b, GG tab (n + 4) 109 [.d (.tup [.str "fold", c, r, s, t]), .d p] M = some (.ok (.d (.bl b)) M) ∧ (b = true ↔ DueF c r s t p) := by
  generalize hR : DueF c r s t p = R
  have key : wpo (GG tab (n + 4) 109 [.d (.tup [.str "fold", c, r, s, t]), .d p] M) (fun v M' => ∃ b, v = .d (.bl b) ∧ M' = M ∧ (b = true ↔ R)) noE := by
    refine (wpo_GG h.p109).mpr ⟨rfl, ?_⟩
    simp only [b_checker_accepts]
    rw [wps_seq]
    simp
    rw [andThen_nx, wps_seq]
    simp [cut5]
    rw [andThen_nx, wps_seq]
    simp [kgetD, List.lookup, bq_fl, bq_rl, bq_rf, bq_al, bq_af, bq_ar]
    rw [andThen_nx, wps_seq]
    obtain ⟨b, e, hb⟩ := sizes_fold (n := n) (M := M) h kc kr ks kt
    simp [in4, e]
    cases b with
    | false =>
      simp
      rw [← hR]
      rintro ⟨k, x, y, z, q, a1, a2, a3, a4, _, a5, a6, a7, a8, a9, a10, _⟩
      have := hb.mpr ⟨k, x, y, z, a1, a2, a3, a4, a5, a6, a7, a8, a9, a10⟩
      cases this
    | true =>
      obtain ⟨k, x, y, z, rfl, rfl, rfl, rfl, a5, a6, a7, a8, a9, a10⟩ := hb.mp rfl
      obtain ⟨b, e, hb⟩ := told_w (n := n) (M := M) h (W := "fold") (ps := [.int k, .int x, .int y, .int z]) (k := k) (t := z) (f := kfF x y) ⟨a5, a6, rfl, rfl, fun d M d1 dk => at_fold h d1 dk a6 ⟨a7, a8⟩ ⟨a9, a10⟩⟩ kp in2 (rc := false) (by simp; decide)
      simp [e]
      have : b = true ↔ R := by
        rw [← hR, hb]
        constructor
        · rintro ⟨q, rfl, q1, q2, q3, q4, q5⟩
          exact ⟨k, x, y, z, q, rfl, rfl, rfl, rfl, rfl, a5, a6, a7, a8, a9, a10, q1, q2, q3, by simpa using q4, q5⟩
        · rintro ⟨k', x', y', z', q, e1, e2, e3, e4, rfl, _, _, _, _, _, _, q1, q2, q3, q4, q5⟩
          cases e1; cases e2; cases e3; cases e4
          exact ⟨q, rfl, q1, q2, q3, by simpa using q4, q5⟩
      cases b <;> simp_all
  obtain ⟨v, M', e, b, rfl, rfl, q⟩ := wpo_get key
  exact ⟨b, e, q⟩
def DueR (c s t p : PD) : Prop := ∃ k y z q, c = .int k ∧ s = .int y ∧ t = .int z ∧ p = .int q ∧ 1 ≤ k ∧ k ≤ 10 ^ 9 ∧ 1 ≤ y ∧ y ≤ 10 ^ 30 ∧ 1 ≤ q ∧ q ≤ k ∧ q ∣ k ∧ z = kfR k y q + 1 ∧ ∀ w, 0 < w → w ∣ k → kfR k y w ≤ kfR k y q
theorem accepts_reach (h : TP tab) {p : PD} (kc : Kn c) (ks : Kn s) (kt : Kn t) (kp : Kn p) : ∃ b, GG tab (n + 4) 109 [.d (.tup [.str "reach", c, s, t]), .d p] M = some (.ok (.d (.bl b)) M) ∧ (b = true ↔ DueR c s t p) := by
  generalize hR : DueR c s t p = R
  have key : wpo (GG tab (n + 4) 109 [.d (.tup [.str "reach", c, s, t]), .d p] M) (fun v M' => ∃ b, v = .d (.bl b) ∧ M' = M ∧ (b = true ↔ R)) noE := by
    refine (wpo_GG h.p109).mpr ⟨rfl, ?_⟩
    simp only [b_checker_accepts]
    rw [wps_seq]
    simp
    rw [andThen_nx, wps_seq]
    simp [cut4]
    rw [andThen_nx, wps_seq]
    simp [kgetD, List.lookup, bq_fl, bq_rl, bq_rf, bq_al, bq_af, bq_ar]
    rw [andThen_nx, wps_seq]
    obtain ⟨b, e, hb⟩ := sizes_other (n := n) (M := M) h (W := "reach") (by decide) (by decide) kc ks kt
    simp [in4, e]
    cases b with
    | false =>
      simp
      rw [← hR]
      rintro ⟨k, y, z, q, a1, a3, a4, _, a5, a6, a7, a8, _⟩
      have := hb.mpr ⟨k, y, z, a1, a3, a4, a5, a6, a7, a8⟩
      cases this
    | true =>
      obtain ⟨k, y, z, rfl, rfl, rfl, a5, a6, a7, a8⟩ := hb.mp rfl
      obtain ⟨b, e, hb⟩ := told_w (n := n) (M := M) h (W := "reach") (ps := [.int k, .int y, .int z]) (k := k) (t := z) (f := kfR k y) ⟨a5, a6, rfl, rfl, fun d M d1 dk => at_reach h d1 dk a6 ⟨a7, a8⟩⟩ kp in2 (rc := true) (by simp; try decide)
      simp [e]
      have : b = true ↔ R := by
        rw [← hR, hb]
        constructor
        · rintro ⟨q, rfl, q1, q2, q3, q4, q5⟩
          exact ⟨k, y, z, q, rfl, rfl, rfl, rfl, a5, a6, a7, a8, q1, q2, q3, by simpa using q4, q5⟩
        · rintro ⟨k', y', z', q, e1, e3, e4, rfl, _, _, _, _, q1, q2, q3, q4, q5⟩
          cases e1; cases e3; cases e4
          exact ⟨q, rfl, q1, q2, q3, by simpa using q4, q5⟩
      cases b <;> simp_all
  obtain ⟨v, M', e, b, rfl, rfl, q⟩ := wpo_get key
  exact ⟨b, e, q⟩
def DueA (c s t p : PD) : Prop := ∃ k y z q, c = .int k ∧ s = .int y ∧ t = .int z ∧ p = .int q ∧ 1 ≤ k ∧ k ≤ 10 ^ 9 ∧ 1 ≤ y ∧ y ≤ 10 ^ 30 ∧ 1 ≤ q ∧ q ≤ k ∧ q ∣ k ∧ z = kfA k y q ∧ ∀ w, 0 < w → w ∣ k → kfA k y w ≤ kfA k y q
theorem accepts_apart (h : TP tab) {p : PD} (kc : Kn c) (ks : Kn s) (kt : Kn t) (kp : Kn p) : ∃ b, GG tab (n + 4) 109 [.d (.tup [.str "apart", c, s, t]), .d p] M = some (.ok (.d (.bl b)) M) ∧ (b = true ↔ DueA c s t p) := by
  generalize hR : DueA c s t p = R
  have key : wpo (GG tab (n + 4) 109 [.d (.tup [.str "apart", c, s, t]), .d p] M) (fun v M' => ∃ b, v = .d (.bl b) ∧ M' = M ∧ (b = true ↔ R)) noE := by
    refine (wpo_GG h.p109).mpr ⟨rfl, ?_⟩
    simp only [b_checker_accepts]
    rw [wps_seq]
    simp
    rw [andThen_nx, wps_seq]
    simp [cut4]
    rw [andThen_nx, wps_seq]
    simp [kgetD, List.lookup, bq_fl, bq_rl, bq_rf, bq_al, bq_af, bq_ar]
    rw [andThen_nx, wps_seq]
    obtain ⟨b, e, hb⟩ := sizes_other (n := n) (M := M) h (W := "apart") (by decide) (by decide) kc ks kt
    simp [in4, e]
    cases b with
    | false =>
      simp
      rw [← hR]
      rintro ⟨k, y, z, q, a1, a3, a4, _, a5, a6, a7, a8, _⟩
      have := hb.mpr ⟨k, y, z, a1, a3, a4, a5, a6, a7, a8⟩
      cases this
    | true =>
      obtain ⟨k, y, z, rfl, rfl, rfl, a5, a6, a7, a8⟩ := hb.mp rfl
      obtain ⟨b, e, hb⟩ := told_w (n := n) (M := M) h (W := "apart") (ps := [.int k, .int y, .int z]) (k := k) (t := z) (f := kfA k y) ⟨a5, a6, rfl, rfl, fun d M d1 dk => at_apart h d1 dk a6 ⟨a7, a8⟩⟩ kp in2 (rc := false) (by simp; try decide)
      simp [e]
      have : b = true ↔ R := by
        rw [← hR, hb]
        constructor
        · rintro ⟨q, rfl, q1, q2, q3, q4, q5⟩
          exact ⟨k, y, z, q, rfl, rfl, rfl, rfl, a5, a6, a7, a8, q1, q2, q3, by simpa using q4, q5⟩
        · rintro ⟨k', y', z', q, e1, e3, e4, rfl, _, _, _, _, q1, q2, q3, q4, q5⟩
          cases e1; cases e3; cases e4
          exact ⟨q, rfl, q1, q2, q3, by simpa using q4, q5⟩
      cases b <;> simp_all
  obtain ⟨v, M', e, b, rfl, rfl, q⟩ := wpo_get key
  exact ⟨b, e, q⟩
end
end Mi
namespace Mi
open PySem PySem.Spec PyProof.Rows L2
theorem srtset_ints {ns : List Int} (h : ns.length ≤ 3600) : srtsetD (.lst (ns.map .int)) = some (.lst ((srtU ns).map .int)) := by
  unfold srtsetD
  dsimp only
  rw [intsOf_map]
  dsimp only
  rw [if_pos (by unfold scanBound; omega)]
theorem minD1_map {ns : List Int} (h : ns ≠ []) : ∃ m, minD1 [.lst (ns.map .int)] = some (.int m) ∧ m ∈ ns ∧ ∀ y ∈ ns, m ≤ y := by
  cases hm : minIn ns with
  | none =>
    cases ns with
    | nil => exact (h rfl).elim
    | cons a l => cases hm
  | some m =>
    have := minIn_le hm
    refine ⟨m, ?_, this.1, this.2⟩
    unfold minD1
    dsimp only
    rw [intsOf_map]
    dsimp only
    rw [hm]
theorem indexD_map {ns : List Int} {m : Int} (h : m ∈ ns) : ∃ j : Nat, indexD (.lst (ns.map .int)) (.int m) = some (.int j) ∧ ns[j]? = some m := by
  unfold indexD
  dsimp only
  rw [intsOf_map]
  dsimp only
  cases hf : ns.findIdx? (· == m) with
  | none =>
    rw [List.findIdx?_eq_none_iff] at hf
    have := hf m h
    simp at this
  | some j =>
    refine ⟨j, rfl, ?_⟩
    rw [List.findIdx?_eq_some_iff_getElem] at hf
    obtain ⟨hj, h1, _⟩ := hf
    rw [List.getElem?_eq_getElem hj]
    have := beq_iff_eq.mp h1
    rw [this]
@[simp] theorem kn_i {i : Int} : Kn (.int i) := by simp [Kn, tyS]
@[simp] theorem kn_b {b : Bool} : Kn (.bl b) := by simp [Kn, tyS]
@[simp] theorem kn_n : Kn .non := by simp [Kn, tyS]
@[simp] theorem kn_s {x : Str} : Kn (.str x) := by simp [Kn, tyS]
@[simp] theorem kn_t {xs : List PD} : Kn (.tup xs) := by simp [Kn, tyS]
@[simp] theorem kn_l {xs : List PD} : Kn (.lst xs) := by simp [Kn, tyS]
@[simp] theorem kn_d {xs : List Key} {ys : List PD} : Kn (.dct xs ys) := by simp [Kn, tyS]
theorem ifB_and {a b : Bool} {A B : Prop} (hA : a = true → b = true → A) (hB : B) : ifB a (ifB b A B) B := by
  cases a
  · exact hB
  · cases b
    · exact hB
    · exact hA rfl rfl
theorem atI_mem {l : List Int} {x : Int} (h0 : 0 ≤ x) (h1 : x < l.length) : ∃ v, v ∈ l ∧ atI (l.map PD.int) x = some (.int v) := by
  have hx : x.toNat < l.length := by omega
  refine ⟨l[x.toNat], List.getElem_mem hx, ?_⟩
  have := atI_ok (l := l.map PD.int) (k := x.toNat) (v := .int l[x.toNat]) (by simp [hx])
  rw [Int.toNat_of_nonneg h0] at this
  exact this
theorem take_same {M l : MH} {y : MO} : (M ++ y :: l).take (M.length + (l.length + 1)) = M ++ y :: l := by
  rw [List.take_of_length_le]; simp
theorem inD_int {x : Int} {l : List Int} : inD (.int x) (.lst (l.map .int)) = some (.bl (decide (x ∈ l))) := by
  unfold inD seqOf toPy
  dsimp only
  rw [toPys_ints]
  dsimp only
  rw [if_pos (by simp [depth_map_int])]
  congr 2
  rw [Bool.eq_iff_iff, decide_eq_true_iff, List.any_eq_true]
  constructor
  · rintro ⟨y, hy, e⟩
    obtain ⟨z, hz, rfl⟩ := List.mem_map.mp hy
    have : (z == x) = true := e
    exact beq_iff_eq.mp this ▸ hz
  · intro hx
    exact ⟨.int x, List.mem_map.mpr ⟨x, hx, rfl⟩, by show (x == x) = true; simp⟩
theorem notinD_int {x : Int} {l : List Int} : notinD (.int x) (.lst (l.map .int)) = some (.bl (!decide (x ∈ l))) := by
  have h := inD_int (x := x) (l := l)
  unfold inD seqOf toPy at h
  unfold notinD seqOf toPy
  dsimp only at h ⊢
  rw [toPys_ints] at h ⊢
  dsimp only at h ⊢
  rw [if_pos (by simp [depth_map_int])] at h ⊢
  have e := Option.some.inj h
  injection e with e
  rw [e]
end Mi
namespace Mi
open PySem PySem.Spec PyProof.Rows L2
/-- all divisors, ascending -/
def IsDvs (n : Int) (L : List Int) : Prop := L.Pairwise (· < ·) ∧ ∀ x : Int, x ∈ L ↔ 0 < x ∧ x ∣ n
theorem dv_toNat {k x : Int} (h : x ∣ k) (x0 : 0 < x) (k0 : 0 < k) : x.toNat ∣ k.toNat := by
  obtain ⟨y, rfl⟩ := h
  have y0 : 0 < y := by
    apply Decidable.byContradiction
    intro z
    have : x * y ≤ x * 0 := Int.mul_le_mul_of_nonneg_left (by omega) (by omega)
    omega
  refine ⟨y.toNat, ?_⟩
  have : ((x * y).toNat : Int) = ((x.toNat * y.toNat : Nat) : Int) := by
    rw [Int.natCast_mul, Int.toNat_of_nonneg (by omega), Int.toNat_of_nonneg (by omega), Int.toNat_of_nonneg (by omega)]
  exact Int.ofNat.inj this
/-- what is found up to one: pairs -/
structure Fnd (k one : Int) (lo : List Int) (L : List Int) : Prop where
  nd : lo.Nodup
  dv : ∀ x ∈ lo, 0 < x ∧ x < one ∧ x ∣ k
  len : L.length = 2 * lo.length
  mem : ∀ x, x ∈ L ↔ 0 < x ∧ x ∣ k ∧ (x < one ∨ k / x < one)
theorem all_one {a : Int} {L : List Int} (nd : L.Nodup) (h : ∀ x ∈ L, x = a) : L.length ≤ 1 := by
  match L, nd, h with
  | [], _, _ => simp
  | [_], _, _ => simp
  | x :: y :: r, nd, h =>
    have hx := h x (by simp)
    have hy := h y (by simp)
    subst hx hy
    simp at nd
theorem fnd_few {k one : Int} {lo L : List Int} (k1 : 1 ≤ k) (k2 : k ≤ 10 ^ 9) (F : Fnd k one lo L) (h : (one - 1) * (one - 1) ≤ k) : L.length ≤ 3600 := by
  obtain ⟨nd, dv, len, _⟩ := F
  have e := List.length_eq_countP_add_countP (fun d => decide (d < one - 1)) (l := lo)
  rw [List.countP_eq_length_filter, List.countP_eq_length_filter] at e
  have q2 : (lo.filter fun d => decide ¬ (decide (d < one - 1)) = true).length ≤ 1 := by
    refine all_one (a := one - 1) (nd.filter _) fun d hd => ?_
    obtain ⟨y1, y2⟩ := List.mem_filter.mp hd
    have := dv d y1
    have : ¬ d < one - 1 := by simpa using y2
    omega
  generalize hl : (lo.filter fun d => decide (d < one - 1)) = l1 at *
  have nd1 : l1.Nodup := hl ▸ nd.filter _
  have dv1 : ∀ x ∈ l1, 0 < x ∧ x < one - 1 ∧ x ∣ k := fun x hx => by
    rw [← hl] at hx
    obtain ⟨y1, y2⟩ := List.mem_filter.mp hx
    have a := dv x y1
    exact ⟨a.1, of_decide_eq_true y2, a.2.2⟩
  have pr : ∀ x ∈ l1, x * (k / x) = k ∧ 0 < k / x := fun x hx => by
    obtain ⟨a, _, c⟩ := dv1 x hx
    exact ⟨Int.mul_ediv_cancel' c, Int.ediv_pos_of_pos_of_dvd (by omega) (by omega) c⟩
  have q1 := divs_few (n := k.toNat) (by omega) (by omega) (L := l1.map Int.toNat ++ l1.map fun x => (k / x).toNat) (by
    rw [List.nodup_append]
    refine ⟨?_, ?_, ?_⟩
    · refine List.pairwise_map.mpr (List.Pairwise.imp_of_mem ?_ nd1)
      intro a b ha hb ne e
      have := (dv1 a ha).1
      have := (dv1 b hb).1
      omega
    · refine List.pairwise_map.mpr (List.Pairwise.imp_of_mem ?_ nd1)
      intro a b ha hb ne e
      have a1 := pr a ha
      have b1 := pr b hb
      have e2 : k / a = k / b := by omega
      rw [e2] at a1
      apply ne
      exact Int.eq_of_mul_eq_mul_right (by omega) (a1.1.trans b1.1.symm)
    · intro u hu v hv e
      obtain ⟨a, ha, rfl⟩ := List.mem_map.mp hu
      obtain ⟨b, hb, rfl⟩ := List.mem_map.mp hv
      have b1 := pr b hb
      have a0 := dv1 a ha
      have b0 := dv1 b hb
      have e2 : a = k / b := by omega
      rw [← e2] at b1
      have : b * a ≤ (one - 2) * (one - 2) := Int.mul_le_mul (by omega) (by omega) (by omega) (by omega)
      have e3 : (one - 1) * (one - 1) = (one - 2) * (one - 2) + (one - 2) + (one - 2) + 1 := by
        rw [show one - 1 = (one - 2) + 1 by omega, Int.mul_add, Int.add_mul]
        omega
      omega) (by
    intro d hd
    rcases List.mem_append.mp hd with hd | hd
    · obtain ⟨a, ha, rfl⟩ := List.mem_map.mp hd
      exact dv_toNat (dv1 a ha).2.2 (dv1 a ha).1 (by omega)
    · obtain ⟨a, ha, rfl⟩ := List.mem_map.mp hd
      have a1 := pr a ha
      exact dv_toNat ⟨a, by rw [Int.mul_comm]; exact a1.1.symm⟩ a1.2 (by omega))
  rw [List.length_append, List.length_map, List.length_map] at q1
  omega
def lstP (k : Int) (M : MH) (v : VL) (M' : MH) : Prop := ∃ L : List Int, IsDvs k L ∧ v = .d (.lst (L.map .int)) ∧ M' = M
def dvI (k : Int) (M : MH) (j : Nat) (ρ : EV) (M' : MH) : Prop := ∃ (lo L : List Int) (o : Option VL), Fnd k (1 + j) lo L ∧ (j : Int) * j ≤ k ∧ ρ = [some (.d (.int k)), some (.d (.lst (L.map .int))), o] ∧ M' = M
def drawP (M l : MH) (N hi : Int) (v : VL) (M' : MH) : Prop := ∃ (w' : Wst) (x : Int), WOk w' N ∧ 1 ≤ x ∧ x ≤ hi ∧ v = .d (.int x) ∧ M' = M ++ wl w' :: l
def greatI (M l : MH) (N i f : Int) (j : Nat) (ρ : EV) (M' : MH) : Prop := ∃ (w' : Wst) (z : Int) (p4 p5 : Option VL), WOk w' (N + 3 + j) ∧ 1 ≤ z ∧ z ≤ 5000 ∧ ρ = [some (.r M.length), some (.d (.int i)), some (.d (.int f)), some (.d (.int z)), p4, p5] ∧ M' = M ++ wl w' :: l
theorem fnd_0 {k : Int} (k1 : 1 ≤ k) : Fnd k 1 [] [] := by
  refine ⟨.nil, (by intro x hx; cases hx), rfl, fun x => ⟨fun hx => (by cases hx), ?_⟩⟩
  rintro ⟨x0, xk, h⟩
  have := Int.ediv_pos_of_pos_of_dvd (show 0 < k by omega) (show 0 ≤ x by omega) xk
  omega
theorem fnd_no {k one : Int} {lo L : List Int} (F : Fnd k one lo L) (hn : ¬ one ∣ k) : Fnd k (one + 1) lo L := by
  obtain ⟨nd, dv, len, mem⟩ := F
  refine ⟨nd, fun x hx => ?_, len, fun x => ?_⟩
  · have := dv x hx
    exact ⟨this.1, by omega, this.2.2⟩
  · rw [mem x]
    constructor
    · rintro ⟨x0, xk, h⟩
      exact ⟨x0, xk, by omega⟩
    · rintro ⟨x0, xk, h⟩
      refine ⟨x0, xk, ?_⟩
      have e : x * (k / x) = k := Int.mul_ediv_cancel' xk
      have a1 : x ≠ one := fun q => hn (q ▸ xk)
      have a2 : k / x ≠ one := fun q => hn ⟨x, by rw [← q, Int.mul_comm]; exact e.symm⟩
      omega
theorem fnd_yes {k one : Int} {lo L : List Int} (k1 : 1 ≤ k) (o1 : 1 ≤ one) (F : Fnd k one lo L) (hd : one ∣ k) : Fnd k (one + 1) (one :: lo) (L ++ [one, k / one]) := by
  obtain ⟨nd, dv, len, mem⟩ := F
  have e0 : one * (k / one) = k := Int.mul_ediv_cancel' hd
  have c1 := Int.ediv_pos_of_pos_of_dvd (show 0 < k by omega) (show 0 ≤ one by omega) hd
  have inv : k / (k / one) = one := Int.ediv_eq_of_eq_mul_left (by omega) e0.symm
  refine ⟨?_, fun x hx => ?_, by simp; omega, fun x => ?_⟩
  · rw [List.nodup_cons]
    refine ⟨fun h => ?_, nd⟩
    have := dv one h
    omega
  · rcases List.mem_cons.mp hx with rfl | hx
    · exact ⟨by omega, by omega, hd⟩
    · have := dv x hx
      exact ⟨this.1, by omega, this.2.2⟩
  · rw [List.mem_append, mem x]
    constructor
    · rintro (⟨x0, xk, h⟩ | h)
      · exact ⟨x0, xk, by omega⟩
      · rcases List.mem_cons.mp h with rfl | h
        · exact ⟨by omega, hd, by omega⟩
        · rw [List.mem_singleton] at h
          subst h
          exact ⟨c1, ⟨one, by rw [Int.mul_comm]; exact e0.symm⟩, .inr (by rw [inv]; omega)⟩
    · rintro ⟨x0, xk, h⟩
      have e : x * (k / x) = k := Int.mul_ediv_cancel' xk
      by_cases a1 : x = one
      · exact .inr (by simp [a1])
      · by_cases a2 : k / x = one
        · refine .inr ?_
          have : x = k / one := by
            rw [← a2]
            exact (Int.ediv_eq_of_eq_mul_left (by omega) e.symm).symm
          simp [this]
        · exact .inl ⟨x0, xk, by omega⟩
theorem fnd_end {k one : Int} {lo L : List Int} (k1 : 1 ≤ k) (o1 : 1 ≤ one) (F : Fnd k one lo L) (h : k < one * one) : IsDvs k (srtU L) := by
  refine ⟨srtU_asc L, fun x => ?_⟩
  rw [mem_srtU, F.mem x]
  constructor
  · rintro ⟨a, b, _⟩; exact ⟨a, b⟩
  · rintro ⟨a, b⟩
    refine ⟨a, b, ?_⟩
    refine Decidable.byContradiction fun z => ?_
    have e : x * (k / x) = k := Int.mul_ediv_cancel' b
    have := Int.mul_le_mul (show one ≤ x by omega) (show one ≤ k / x by omega) (by omega) (by omega)
    omega
section
variable {tab : Nat → Option Body} {n : Nat} {M l : MH} {c r s t p : PD}
theorem law_is_i (h : TL tab) {d : PD} {a b : Int} (hk : Kn d) : GG tab (n + 1) 1002 [.d d, .d (.int a), .d (.int b)] M = some (.ok (.d (.bl (numB d a b))) M) := by
  refine eq_of_wpo ((wpo_GG h.t1002).mpr ⟨rfl, ?_⟩)
  cases d <;> first
    | exact (hk rfl).elim
    | (simp [b_law_law_is, numB, asI, isiD, tyS, isiT]; done)
    | (simp [b_law_law_is, numB, asI, isiD, tyS, isiT]
       by_cases h1 : a ≤ ‹Int› <;> simp [h1])
theorem divs_i (h : TL tab) {k : Int} (k1 : 1 ≤ k) (k2 : k ≤ 10 ^ 9) : ∃ L : List Int, IsDvs k L ∧ GG tab (n + 1) 1003 [.d (.int k)] M = some (.ok (.d (.lst (L.map .int))) M) := by
  have key : wpo (GG tab (n + 1) 1003 [.d (.int k)] M) (lstP k M) noE := by
    refine (wpo_GG h.t1003).mpr ⟨rfl, ?_⟩
    simp only [b_law_law_divisors]
    rw [wps_seq]
    simp
    rw [andThen_nx, wps_seq]
    simp
    refine ⟨by decide, by decide, ?_⟩
    generalize hQ : andThen (sRet (eUn srtsetD (eVar 1))) _ = Q
    have fin : ∀ (one : Int) (lo L : List Int) (o : Option VL), Fnd k one lo L → (one - 1) * (one - 1) ≤ k → k < one * one → 1 ≤ one → Q .nx [some (.d (.int k)), some (.d (.lst (L.map .int))), o] M := by
      intro one lo L o F h1 h2 h3
      have few := fnd_few k1 k2 F h1
      rw [← hQ, andThen_nx]
      simp [srtset_ints few]
      exact ⟨_, fnd_end k1 h3 F h2, rfl, rfl⟩
    clear hQ
    refine wps_forL (dvI k M) ?_ ?_ ?_
    · exact ⟨[], [], none, by simpa using fnd_0 k1, by simp; omega, rfl, rfl⟩
    · rintro j d ρ M' hd ⟨lo, L, o, F, sq, rfl, rfl⟩
      obtain ⟨rfl, hj⟩ := rangeL_get hd
      have sq' : (1 + (j : Int) - 1) * (1 + (j : Int) - 1) ≤ k := by rw [show 1 + (j : Int) - 1 = j by omega]; exact sq
      simp
      refine ⟨mulOk_of ⟨by omega, by omega⟩ ⟨by omega, by omega⟩, ?_⟩
      refine ifB_dec (fun hb => fin (1 + j) lo L _ F sq' hb (by omega)) (fun hb => ?_)
      have e1 : (1 + ((j + 1 : Nat) : Int)) = 1 + (j : Int) + 1 := by omega
      have sq2 : ((j + 1 : Nat) : Int) * ((j + 1 : Nat) : Int) ≤ k := by rw [show ((j + 1 : Nat) : Int) = 1 + (j : Int) by omega]; omega
      try rw [andThen_nx]
      simp
      refine ⟨by omega, ifB_dec (fun hv => ?_) (fun hv => ?_)⟩
      · have hdv := Int.dvd_of_emod_eq_zero hv
        have few := fnd_few k1 k2 F sq'
        refine ⟨divOk_of (by omega) (by omega), szOk_of (by omega), ?_⟩
        refine ⟨(1 + j) :: lo, L ++ [1 + (j : Int), k / (1 + j)], some (.d (.int (1 + j))), ?_, sq2, ?_, rfl⟩
        · rw [e1]; exact fnd_yes k1 (by omega) F hdv
        · simp
      · refine ⟨lo, L, _, ?_, sq2, rfl, rfl⟩
        rw [e1]
        exact fnd_no F fun z => hv (Int.emod_eq_zero_of_dvd z)
    · rintro ρ M' ⟨lo, L, o, F, sq, rfl, rfl⟩
      rw [rangeL_len] at F sq
      refine fin _ lo L o F ?_ ?_ ?_
      · have : (1 + (((31624 - 1 : Int).toNat : Nat) : Int) - 1) = (((31624 - 1 : Int).toNat : Nat) : Int) := by omega
        rw [this]; exact sq
      · have : (1 + (((31624 - 1 : Int).toNat : Nat) : Int)) = 31624 := by omega
        rw [this]; omega
      · omega
  obtain ⟨v, M', e, L, q, rfl, rfl⟩ := wpo_get key
  exact ⟨L, q, e⟩
theorem dvs_one {k : Int} {L : List Int} (k1 : 1 ≤ k) (h : IsDvs k L) : (1 : Int) ∈ L := (h.2 1).mpr ⟨by omega, Int.one_dvd k⟩
theorem dvs_len {k : Int} {L : List Int} (k1 : 1 ≤ k) (k2 : k ≤ 10 ^ 9) (h : IsDvs k L) : 1 ≤ L.length ∧ L.length ≤ 3527 := by
  constructor
  · exact List.length_pos_of_mem (dvs_one k1 h)
  · have q := divs_few (n := k.toNat) (by omega) (by omega) (L := L.map Int.toNat) (by
      refine List.pairwise_map.mpr (List.Pairwise.imp_of_mem ?_ h.1)
      intro a b ha hb lt e
      have := (h.2 a).mp ha
      have := (h.2 b).mp hb
      omega) (by
      intro d hd
      obtain ⟨a, ha, rfl⟩ := List.mem_map.mp hd
      have := (h.2 a).mp ha
      exact dv_toNat this.2 this.1 (by omega))
    rw [List.length_map] at q
    exact q
theorem some_great_i (h : TL tab) {w : Wst} {N i : Int} (hw : WOk w N) (hN : N ≤ 10 ^ 6) : ∃ w' x, WOk w' (N + 12) ∧ 1 ≤ x ∧ x ≤ 10 ^ 9 ∧ GG tab (n + 2) 1004 [.r M.length, .d (.int i)] (M ++ wl w :: l) = some (.ok (.d (.int x)) (M ++ wl w' :: l)) := by
  have key : wpo (GG tab (n + 2) 1004 [.r M.length, .d (.int i)] (M ++ wl w :: l)) (drawP M l (N + 12) (10 ^ 9)) noE := by
    refine (wpo_GG h.t1004).mpr ⟨rfl, ?_⟩
    simp only [b_law_law_some_great]
    rw [wps_seq]
    obtain ⟨w1, f, o1, f0, f1, e1⟩ := draw_i (n := n) (M := M) (l := l) h 8 hw (by omega) (by omega)
    simp [e1]
    rw [andThen_nx, wps_seq]
    simp
    refine ifB_and (fun a b => ?_) ?_
    · obtain ⟨w2, x, ox, x0, x1, e2⟩ := draw_i (n := n) (M := M) (l := l) h 1000000000 o1 (by omega) (by omega)
      simp [e2, take_same]
      exact ⟨⟨by omega, by omega, by decide⟩, w2, 1 + x, ox.mono (by omega), by omega, by omega, rfl, rfl⟩
    rw [andThen_nx, wps_seq]
    simp
    refine ifB_and (fun a b => ?_) ?_
    · obtain ⟨w2, x, ox, x0, x1, e2⟩ := draw_i (n := n) (M := M) (l := l) h 8 o1 (by omega) (by omega)
      obtain ⟨v, hv, e3⟩ := atI_mem (l := [1000000000, 735134400, 999999999, 65536, 720, 2520, 4096, 1]) x0 (by simpa using x1)
      simp only [List.map_cons, List.map_nil] at e3
      simp at hv
      simp [e2, e3, take_same, szOk_of]
      exact ⟨⟨by omega, by omega, by decide⟩, w2, v, ox.mono (by omega), by omega, by omega, rfl, rfl⟩
    rw [andThen_nx, wps_seq]
    obtain ⟨w2, x, o2, x0, x1, e2⟩ := draw_i (n := n) (M := M) (l := l) h 3 o1 (by omega) (by omega)
    obtain ⟨v, hv, e3⟩ := atI_mem (l := [12, 60, 400]) x0 (by simpa using x1)
    simp only [List.map_cons, List.map_nil] at e3
    simp at hv
    obtain ⟨w3, y, o3, y0, y1, e4⟩ := draw_i (n := n) (M := M) (l := l) h v o2 (by omega) (by omega)
    simp [e2, e3, e4]
    rw [andThen_nx, wps_seq]
    simp
    refine ⟨by simp [smallI]; omega, ?_⟩
    refine wps_forL (greatI M l N i f) ?_ ?_ ?_
    · exact ⟨w3, 1 + y, none, none, o3.mono (by omega), by omega, by omega, rfl, rfl⟩
    · rintro j d ρ M' hd ⟨w4, z, p4, p5, o4, z0, z1, rfl, rfl⟩
      obtain ⟨rfl, hj⟩ := rangeL_get hd
      obtain ⟨w5, u, o5, u0, u1, e5⟩ := draw_i (n := n) (M := M) (l := l) h 6 o4 (by omega) (by omega)
      obtain ⟨v, hv, e6⟩ := atI_mem (l := [2, 3, 2, 5, 3, 7]) u0 (by simpa using u1)
      simp only [List.map_cons, List.map_nil] at e6
      simp at hv
      simp [e5, e6, szOk_of]
      rw [andThen_nx]
      simp
      refine ⟨mulOk_of ⟨by omega, by omega⟩ ⟨by omega, by omega⟩, ?_⟩
      have c1 : 1 * 1 ≤ z * v := Int.mul_le_mul (by omega) (by omega) (by omega) (by omega)
      refine ifB_dec (fun hb => ⟨mulOk_of ⟨by omega, by omega⟩ ⟨by omega, by omega⟩, w5, z * v, _, _, o5.mono (by omega), (by omega), hb, rfl, rfl⟩) (fun hb => ⟨w5, z, _, _, o5.mono (by omega), z0, z1, rfl, rfl⟩)
    · rintro ρ M' ⟨w4, z, p4, p5, o4, z0, z1, rfl, rfl⟩
      rw [rangeL_len] at o4
      rw [andThen_nx]
      simp [take_same]
      exact ⟨w4, z, o4.mono (by omega), z0, by omega, rfl, rfl⟩
  obtain ⟨v, M', e, w', x, q1, q2, q3, rfl, rfl⟩ := wpo_get key
  exact ⟨w', x, q1, q2, q3, e⟩
theorem some_size_i (h : TL tab) {w : Wst} {N k : Int} {L : List Int} (hw : WOk w N) (hN : N ≤ 10 ^ 6) (k1 : 1 ≤ k) (k2 : k ≤ 10 ^ 9) (hL : IsDvs k L) : ∃ w' x, WOk w' (N + 12) ∧ 1 ≤ x ∧ x ≤ k ∧ GG tab (n + 2) 1005 [.r M.length, .d (.int k), .d (.lst (L.map .int))] (M ++ wl w :: l) = some (.ok (.d (.int x)) (M ++ wl w' :: l)) := by
  have key : wpo (GG tab (n + 2) 1005 [.r M.length, .d (.int k), .d (.lst (L.map .int))] (M ++ wl w :: l)) (drawP M l (N + 12) k) noE := by
    refine (wpo_GG h.t1005).mpr ⟨rfl, ?_⟩
    simp only [b_law_law_some_size]
    rw [wps_seq]
    obtain ⟨w1, f, o1, f0, f1, e1⟩ := draw_i (n := n) (M := M) (l := l) h 4 hw (by omega) (by omega)
    simp [e1]
    rw [andThen_nx, wps_seq]
    simp
    refine ifB_dec (fun a => ?_) (fun a => ?_)
    · obtain ⟨w2, x, ox, x0, x1, e2⟩ := draw_i (n := n) (M := M) (l := l) h k o1 (by omega) (by omega)
      simp [e2, take_same]
      exact ⟨w2, 1 + x, ox.mono (by omega), by omega, by omega, rfl, rfl⟩
    rw [andThen_nx, wps_seq]
    simp
    refine ifB_dec (fun a => ?_) (fun a => ?_)
    · obtain ⟨w2, x, ox, x0, x1, e2⟩ := draw_i (n := n) (M := M) (l := l) h 8 o1 (by omega) (by omega)
      simp [e2, take_same]
      refine ⟨w2, _, ox.mono (by omega), ?_, ?_, rfl, rfl⟩
      · split <;> omega
      · split <;> omega
    rw [andThen_nx, wps_seq]
    obtain ⟨l1, l2⟩ := dvs_len k1 k2 hL
    obtain ⟨w2, x, o2, x0, x1, e2⟩ := draw_i (n := n) (M := M) (l := l) h (L.length : Int) o1 (by omega) (by omega)
    obtain ⟨d, hd, e3⟩ := atI_mem x0 x1
    obtain ⟨d0, dk⟩ := (hL.2 d).mp hd
    have dle : d ≤ k := Int.le_of_dvd (by omega) dk
    simp [e2, e3]
    rw [andThen_nx, wps_seq]
    have q0 := Int.ediv_pos_of_pos_of_dvd (show 0 < k by omega) (show 0 ≤ d by omega) dk
    have q1 : k / d ≤ k := Int.ediv_le_self _ (by omega)
    obtain ⟨w3, y, o3, y0, y1, e4⟩ := draw_i (n := n) (M := M) (l := l) h (if k / d < 12 then k / d else 12) o2 (by omega) (by split <;> omega)
    have y2 : y < 12 := by
      split at y1 <;> omega
    simp [e4]
    refine ⟨divOk_of (by omega) (by omega), mulOk_of ⟨by omega, by omega⟩ ⟨by omega, by omega⟩, ?_⟩
    rw [andThen_nx, wps_seq]
    simp
    have fin : ∀ (w' : Wst) (z : Int), WOk w' (N + 12) → drawP M l (N + 12) k (VL.d (.int (if (if 1 < z then z else 1) < k then (if 1 < z then z else 1) else k))) (M ++ wl w' :: l) := by
      intro w' z o
      refine ⟨w', _, o, ?_, ?_, rfl, rfl⟩
      · split <;> (try split) <;> omega
      · split <;> (try split) <;> omega
    refine ifB_dec (fun a => ?_) (fun a => ?_)
    · obtain ⟨w4, u, o4, u0, u1, e5⟩ := draw_i (n := n) (M := M) (l := l) h 3 o3 (by omega) (by omega)
      simp [e5]
      rw [andThen_nx]
      simp [take_same]
      exact fin w4 _ (o4.mono (by omega))
    · rw [andThen_nx]
      simp [take_same]
      exact fin w3 _ (o3.mono (by omega))
  obtain ⟨v, M', e, w', x, q1, q2, q3, rfl, rfl⟩ := wpo_get key
  exact ⟨w', x, q1, q2, q3, e⟩
end
end Mi
namespace Mi
open PySem PySem.Spec PyProof.Rows L2
section
variable {tab : Nat → Option Body} {n : Nat} {M l : MH}
def timesP (M l : MH) (N a : Int) (v : VL) (M' : MH) : Prop := ∃ (w' : Wst) (x : Int), WOk w' N ∧ a ≤ x ∧ x ≤ 10 ^ 30 ∧ v = .d (.int x) ∧ M' = M ++ wl w' :: l
def timesI (M l : MH) (N a f : Int) (j : Nat) (ρ : EV) (M' : MH) : Prop := ∃ (w' : Wst) (z : Int) (p4 : Option VL), WOk w' (N + 1 + j) ∧ 0 ≤ z ∧ z < (10 ^ 9) ^ j ∧ ρ = [some (.r M.length), some (.d (.int a)), some (.d (.int f)), some (.d (.int z)), p4] ∧ M' = M ++ wl w' :: l
theorem some_times_i (h : TL tab) {w : Wst} {N a : Int} (hw : WOk w N) (hN : N ≤ 10 ^ 6) (ha : 0 ≤ a ∧ a ≤ 1) : ∃ w' x, WOk w' (N + 12) ∧ a ≤ x ∧ x ≤ 10 ^ 30 ∧ GG tab (n + 2) 1006 [.r M.length, .d (.int a)] (M ++ wl w :: l) = some (.ok (.d (.int x)) (M ++ wl w' :: l)) := by
  have key : wpo (GG tab (n + 2) 1006 [.r M.length, .d (.int a)] (M ++ wl w :: l)) (timesP M l (N + 12) a) noE := by
    refine (wpo_GG h.t1006).mpr ⟨rfl, ?_⟩
    simp only [b_law_law_some_times]
    rw [wps_seq]
    obtain ⟨w1, f, o1, f0, f1, e1⟩ := draw_i (n := n) (M := M) (l := l) h 5 hw (by omega) (by omega)
    simp [e1]
    rw [andThen_nx, wps_seq]
    simp
    refine ⟨by decide, ?_⟩
    have pw9 : PowOk 10 9 := ⟨by omega, by omega, by decide⟩
    have pw30 : PowOk 10 30 := ⟨by omega, by omega, by decide⟩
    refine wps_forL (timesI M l N a f) ?_ ?_ ?_
    · exact ⟨w1, 0, none, o1.mono (by omega), by omega, by omega, rfl, rfl⟩
    · rintro j d ρ M' hd ⟨w2, z, p4, o2, z0, z1, rfl, rfl⟩
      obtain ⟨rfl, hj⟩ := rangeL_get hd
      obtain ⟨w3, y, o3, y0, y1, e2⟩ := draw_i (n := n) (M := M) (l := l) h 1000000000 o2 (by omega) (by omega)
      have zb : z < (10 ^ 9) ^ 4 := by
        have : ((10 : Int) ^ 9) ^ j ≤ (10 ^ 9) ^ 4 := by
          match j, hj with
          | 0, _ => decide
          | 1, _ => decide
          | 2, _ => decide
          | 3, _ => decide
        omega
      have zn : z * 1000000000 + y < (10 ^ 9) ^ (j + 1) := by
        rw [Int.pow_succ]
        have : z + 1 ≤ (10 ^ 9) ^ j := by omega
        have : (z + 1) * 10 ^ 9 ≤ (10 ^ 9) ^ j * 10 ^ 9 := Int.mul_le_mul_of_nonneg_right this (by decide)
        omega
      simp [e2, pw9]
      exact ⟨mulOk_of ⟨by omega, by omega⟩ ⟨by omega, by omega⟩, w3, z * 1000000000 + y, _, o3.mono (by omega), by omega, zn, rfl, rfl⟩
    · rintro ρ M' ⟨w2, z, p4, o2, z0, z1, rfl, rfl⟩
      rw [rangeL_len] at o2
      rw [andThen_nx, wps_seq]
      simp
      refine ifB_dec (fun hf => ?_) (fun hf => ?_)
      · obtain ⟨v, hv, e3⟩ := atI_mem (l := [5, 40, 1000000000]) f0 (by simpa using hf)
        simp only [List.map_cons, List.map_nil] at e3
        simp at hv
        simp [pw9, e3, take_same, szOk_of]
        have v0 : 0 < v := by omega
        have m0 := Int.emod_nonneg z (show v ≠ 0 by omega)
        have m1 := Int.emod_lt_of_pos z v0
        exact ⟨v0, w2, a + z % v, o2.mono (by omega), by omega, by omega, rfl, rfl⟩
      · rw [andThen_nx]
        simp
        refine ifB_dec (fun hg => ?_) (fun hg => ?_)
        · simp [pw30, take_same]
          exact ⟨w2, _, o2.mono (by omega), by omega, by omega, rfl, rfl⟩
        · simp [pw30, take_same]
          have m0 := Int.emod_nonneg z (show (1000000000000000000000000000001 : Int) ≠ 0 by omega)
          have m1 := Int.emod_lt_of_pos z (show (0 : Int) < 1000000000000000000000000000001 by omega)
          refine ⟨w2, _, o2.mono (by omega), ?_, ?_, rfl, rfl⟩
          · split <;> omega
          · split <;> omega
  obtain ⟨v, M', e, w', x, q1, q2, q3, rfl, rfl⟩ := wpo_get key
  exact ⟨w', x, q1, q2, q3, e⟩
end
end Mi
namespace Mi
open PySem PySem.Spec PyProof.Rows L2
section
variable {tab : Nat → Option Body} {n : Nat} {M : MH}
/-- ascending hours of a clock -/
structure Hrs (m : Int) (hs : List Int) : Prop where
  asc : hs.Pairwise (· < ·)
  rg : ∀ x ∈ hs, 0 ≤ x ∧ x < m
theorem Hrs.len {m : Int} {hs : List Int} (h : Hrs m hs) (m0 : 0 ≤ m) : (hs.length : Int) ≤ m := by
  have key : ∀ (l : List Int) (a : Int), l.Pairwise (· < ·) → (∀ x ∈ l, a ≤ x ∧ x < m) → a ≤ m → (l.length : Int) ≤ m - a := by
    intro l
    induction l with
    | nil => intro a _ _ ha; simp; omega
    | cons x l ih =>
      intro a hp hr ha
      obtain ⟨h1, h2⟩ := List.pairwise_cons.mp hp
      have hx := hr x (by simp)
      have := ih (x + 1) h2 (fun y hy => ⟨by have := h1 y hy; omega, (hr y (by simp [hy])).2⟩) (by omega)
      simp only [List.length_cons]
      omega
  have := key hs 0 h.asc h.rg m0
  omega
theorem atI_last {l : List PD} {x : PD} (h : l[l.length - 1]? = some x) : atI l (-1) = some x := by
  have hl := (List.getElem?_eq_some_iff.mp h).1
  have e : ixN l.length (-1) = some (l.length - 1) := by
    unfold ixN
    rw [if_neg (by omega), if_pos (by omega)]
    congr 1
    omega
  unfold atI
  rw [e]
  exact h
end
end Mi
namespace Mi
open PySem PySem.Spec PyProof.Rows L2
end Mi
namespace Mi
open PySem PySem.Spec PyProof.Rows L2
section
variable {M l : MH} {a b b' : MO}
@[simp] theorem get_mx : (M ++ a :: (l ++ [b]))[M.length + (l.length + 1)]? = some b := by
  rw [List.getElem?_append_right (by omega)]
  have e : M.length + (l.length + 1) - M.length = l.length + 1 := by omega
  rw [e, List.getElem?_cons_succ, List.getElem?_append_right (Nat.le_refl _)]
  simp
@[simp] theorem set_mx : (M ++ a :: (l ++ [b])).set (M.length + (l.length + 1)) b' = M ++ a :: (l ++ [b']) := by
  rw [List.set_append_right _ _ (by omega)]
  have e : M.length + (l.length + 1) - M.length = l.length + 1 := by omega
  rw [e, List.set_cons_succ, List.set_append_right _ _ (Nat.le_refl _)]
  simp
@[simp] theorem take_mx : (M ++ a :: (l ++ [b])).take (M.length + (l.length + 1)) = M ++ a :: l := by
  rw [show M ++ a :: (l ++ [b]) = (M ++ a :: l) ++ [b] by simp, List.take_append_of_le_length (by simp), List.take_of_length_le (by simp)]
end
end Mi
namespace Mi
open PySem PySem.Spec PyProof.Rows L2
section
variable {Q : VL → MH → Prop} {E : EW} {M : MH} {ρ : EV}
@[simp] theorem wpo_star {g : EX} {gs : AX} {Q : List VL → MH → Prop} : wpo (aStar g gs ρ M) Q E ↔ wpo (g ρ M) (fun x M1 => wpD (sqD x) fun ds => wpo (gs ρ M1) (fun xs M2 => Q (ds.map VL.d ++ xs) M2) E) E := by
  unfold aStar; rw [wpo_bnd]
  constructor <;> intro h <;> refine wpo_mono h fun x M1 h => ?_
  · cases h1 : sqD x with
    | none => rw [h1] at h; exact h.elim
    | some ds =>
      rw [h1] at h
      exact wpo_bnd.mp h
  · cases h1 : sqD x with
    | none => rw [h1] at h; exact h.elim
    | some ds =>
      rw [h1] at h
      exact wpo_bnd.mpr h
@[simp] theorem sqD_t {ds : List PD} : sqD (.d (.tup ds)) = some ds := rfl
@[simp] theorem sqD_l {ds : List PD} : sqD (.d (.lst ds)) = some ds := rfl
@[simp] theorem wpo_fs {gs : List EX} : wpo (eFs gs ρ M) Q E ↔ wpo (fsL gs Str.empty ρ M) (fun y M1 => Q (.d (.str y)) M1) E := wpo_bnd
@[simp] theorem wpo_fsN {acc : Str} {Q : Str → MH → Prop} : wpo (fsL [] acc ρ M) Q E ↔ Q acc M := Iff.rfl
@[simp] theorem wpo_fsC {g : EX} {gs : List EX} {acc : Str} {Q : Str → MH → Prop} : wpo (fsL (g :: gs) acc ρ M) Q E ↔ wpo (g ρ M) (fun x M1 => isSr x fun y => (acc ++ y).length ≤ sizeLine ∧ wpo (fsL gs (acc ++ y) ρ M1) Q E) E := by
  rw [fsL_cons, wpo_bnd]
  have key : ∀ x M1, wpo (strK x fun y => if (acc ++ y).length ≤ sizeLine then fsL gs (acc ++ y) ρ M1 else none) Q E ↔ isSr x fun y => (acc ++ y).length ≤ sizeLine ∧ wpo (fsL gs (acc ++ y) ρ M1) Q E := fun x M1 => by
    cases x with
    | r k => exact Iff.rfl
    | d d =>
      cases d with
      | str y =>
        show wpo (if (acc ++ y).length ≤ sizeLine then fsL gs (acc ++ y) ρ M1 else none) Q E ↔ (acc ++ y).length ≤ sizeLine ∧ _
        by_cases h : (acc ++ y).length ≤ sizeLine
        · rw [if_pos h]; exact ⟨fun q => ⟨h, q⟩, fun q => q.2⟩
        · rw [if_neg h]; exact ⟨fun q => q.elim, fun q => h q.1⟩
      | _ => exact Iff.rfl
  constructor <;> intro h <;> refine wpo_mono h fun x M1 h => ?_
  · exact (key x M1).mp h
  · exact (key x M1).mpr h
end
@[simp] theorem pdsOf_map : ∀ ds : List PD, pdsOf (ds.map VL.d) = some ds
  | [] => rfl
  | d :: ds => by
    show (match pdsOf (ds.map VL.d) with
      | some as => some (d :: as)
      | none => none) = _
    rw [pdsOf_map ds]
@[simp] theorem isi2_i {i : Int} : isi2D "int" "str" (.int i) = some (.bl true) := rfl
@[simp] theorem isi2_s {x : Str} : isi2D "int" "str" (.str x) = some (.bl true) := rfl
end Mi
namespace Mi
open PySem PySem.Spec PyProof.Rows L2
def IsIS (d : PD) : Prop := (∃ i, d = .int i) ∨ ∃ x, d = .str x
theorem IsIS.i {i : Int} : IsIS (.int i) := .inl ⟨i, rfl⟩
theorem neD_sx (x : Str) : neD (.str x) (.str x) = some (.bl false) := neD_self (p := .str x) rfl (by simp [PyData.depth])
theorem isD_tt : isD (.bl true) (.bl true) = some (.bl true) := rfl
section
variable {tab : Nat → Option Body} {n : Nat} {M : MH}
theorem same_i (h : TL tab) {ds : List PD} (hs : ∀ d ∈ ds, IsIS d) (l : ds.length ≤ 1000) : GG tab (n + 1) 1007 [.d (.tup ds), .d (.tup ds)] M = some (.ok (.d (.bl true)) M) := by
  refine eq_of_wpo ((wpo_GG h.t1007).mpr ⟨rfl, ?_⟩)
  simp only [b_law_law_same]
  rw [wps_seq]
  have i1 : isiD "tuple" (.tup ds) = some (.bl true) := rfl
  simp [i1, truD]
  rw [andThen_nx, wps_seq, wps_for0]
  simp
  refine ⟨by simp [smallI]; omega, ?_⟩
  refine wps_forL (fun j ρ M' => ∃ p2 : Option VL, ρ = [some (.d (.tup ds)), some (.d (.tup ds)), p2] ∧ M' = M) ⟨_, rfl, rfl⟩ ?_ ?_
  · rintro j d ρ M' hd ⟨p2, rfl, rfl⟩
    obtain ⟨rfl, hj⟩ := rangeL_get hd
    have hj' : j < ds.length := by omega
    have ea : atI ds (j : Int) = some ds[j] := atI_ok (by simp [hj'])
    have hx := hs ds[j] (List.getElem_mem _)
    generalize ds[j] = x at ea hx
    rcases hx with ⟨i, rfl⟩ | ⟨y, rfl⟩
    · simp [ea, truD]
    · have i2 : isiD "bool" (.str y) = some (.bl false) := rfl
      simp [ea, i2, truD, neD_sx]
  · rintro ρ M' ⟨p2, rfl, rfl⟩
    rw [andThen_nx]
    simp
theorem is_pair_i (h : TL tab) {ds : List PD} {p : PD} (hs : ∀ d ∈ ds, IsIS d) (l : ds.length ≤ 1000) (e : GG tab (n + 1) 109 [.d (.tup ds), .d p] M = some (.ok (.d (.bl true)) M)) :
    GG tab (n + 2) 1008 [.d (.tup [.tup ds, p]), .d (.tup ds)] M = some (.ok (.d (.bl true)) M) := by
  refine eq_of_wpo ((wpo_GG h.t1008).mpr ⟨rfl, ?_⟩)
  simp only [b_law_law_is_pair]
  rw [wps_seq]
  have i1 : isiD "tuple" (.tup [.tup ds, p]) = some (.bl true) := rfl
  have a0 : atI [PD.tup ds, p] 0 = some (.tup ds) := rfl
  have a1 : atI [PD.tup ds, p] 1 = some p := rfl
  simp [i1, truD, a0, same_i (n := n) h hs l]
  rw [andThen_nx]
  simp [a0, a1, e, isD_tt]
end
end Mi
namespace Mi
open PySem PySem.Spec PyProof.Rows L2
end Mi
namespace Mi
open PySem PySem.Spec PyProof.Rows L2
section
variable {tab : Nat → Option Body} {n : Nat} {M : MH} {p : PD}
def SetOk (s : Int × List Int) : Prop := 1 ≤ s.1 ∧ s.1 ≤ 240 ∧ Hrs s.1 s.2
end
end Mi
namespace Mi
open PySem PySem.Spec PyProof.Rows L2
section
variable {tab : Nat → Option Body} {n : Nat} {M : MH} {p : PD}
theorem SetOk.few {s : Int × List Int} (h : SetOk s) : s.2.length ≤ 240 := by
  have := h.2.2.len (by have := h.1; omega)
  have := h.2.1
  omega
end
end Mi
namespace Mi
open PySem PySem.Spec PyProof.Rows L2
section
variable {Q : List PD → MH → Prop} {E : EW} {M : MH} {ρ : EV}
def zpD (x y : PD) (P : List PD → Prop) : Prop := match listOf x, listOf y with
  | some as, some bs => P (zipL as bs)
  | _, _ => (match x, y with
    | .tup as, .tup bs => P (zipL as bs)
    | .lst as, .tup bs => P (zipL as bs)
    | _, _ => False)
@[simp] theorem zpD_lt {as bs : List PD} {P : List PD → Prop} : zpD (.lst as) (.tup bs) P ↔ P (zipL as bs) := Iff.rfl
@[simp] theorem zpD_tt {as bs : List PD} {P : List PD → Prop} : zpD (.tup as) (.tup bs) P ↔ P (zipL as bs) := Iff.rfl
@[simp] theorem zpD_ll {as bs : List PD} {P : List PD → Prop} : zpD (.lst as) (.lst bs) P ↔ P (zipL as bs) := Iff.rfl
@[simp] theorem wpo_zip {g h : EX} : wpo (iZipD g h ρ M) Q E ↔ wpo (g ρ M) (fun v M1 => wpo (h ρ M1) (fun w M2 => isDt v fun x => isDt w fun y => zpD x y fun ds => Q ds M2) E) E := by
  unfold iZipD; rw [wpo_bnd]
  constructor <;> intro hh <;> refine wpo_mono hh fun v M1 hh => ?_
  · rw [wpo_bnd] at hh
    refine wpo_mono hh fun w M2 hh => ?_
    cases v with
    | r _ => exact hh.elim
    | d x =>
      cases w with
      | r _ => exact hh.elim
      | d y =>
        rw [isDt_d, isDt_d]
        unfold zpD
        dsimp only at hh
        revert hh
        cases listOf x <;> cases listOf y <;> cases x <;> cases y <;> intro hh <;> exact hh
  · rw [wpo_bnd]
    refine wpo_mono hh fun w M2 hh => ?_
    cases v with
    | r _ => exact hh.elim
    | d x =>
      cases w with
      | r _ => exact hh.elim
      | d y =>
        rw [isDt_d, isDt_d] at hh
        unfold zpD at hh
        dsimp only
        revert hh
        cases listOf x <;> cases listOf y <;> cases x <;> cases y <;> intro hh <;> exact hh
end
end Mi
namespace Mi
open PySem PySem.Spec PyProof.Rows L2
def rgJ (m : Int) : List Int := (List.range m.toNat).map fun i => ((i : Nat) : Int)
theorem mem_rgJ {m x : Int} : x ∈ rgJ m ↔ 0 ≤ x ∧ x < m := by
  unfold rgJ
  rw [List.mem_map]
  constructor
  · rintro ⟨i, hi, rfl⟩
    rw [List.mem_range] at hi
    omega
  · intro h
    exact ⟨x.toNat, List.mem_range.mpr (by omega), by omega⟩
def PT (p : PD) : Prop := Kn p ∧ ∀ xs, p = .tup xs → ∀ x ∈ xs, Kn x
end Mi
namespace Mi
open PySem PySem.Spec PyProof.Rows L2
theorem asc_len : ∀ {r : List Int} {a n : Int}, r.Pairwise (· < ·) → (∀ x ∈ r, a ≤ x ∧ x < n) → a ≤ n → (r.length : Int) ≤ n - a
  | [], a, n, _, _, h => by simp; omega
  | x :: r, a, n, p, m, h => by
    obtain ⟨p1, p2⟩ := List.pairwise_cons.mp p
    have hx := m x List.mem_cons_self
    have := asc_len (a := x + 1) (n := n) p2 (fun y hy => ⟨by have := p1 y hy; omega, (m y (List.mem_cons_of_mem _ hy)).2⟩) (by omega)
    rw [List.length_cons]
    omega
structure OkH (n : Int) (r : List Int) : Prop where
  n1 : 1 ≤ n
  n2 : n ≤ 240
  asc : r.Pairwise (· < ·)
  lo : ∀ x ∈ r, 0 ≤ x
  hi : ∀ x ∈ r, x < n
theorem OkH.len {n : Int} {r : List Int} (h : OkH n r) : (r.length : Int) ≤ n := by
  have := asc_len (a := 0) (n := n) h.asc (fun x hx => ⟨h.lo x hx, h.hi x hx⟩) (by have := h.n1; omega)
  omega
theorem rgJ_asc (m : Int) : (rgJ m).Pairwise (· < ·) := by
  unfold rgJ
  rw [List.pairwise_map]
  exact List.pairwise_lt_range.imp fun h => by omega
open Classical in
/-- the hours of a clock that have a property -/
noncomputable def hrs (n : Int) (p : Int → Prop) : List Int := (rgJ n).filter fun x => decide (p x)
section
variable {n : Int} {p q : Int → Prop} {r : List Int} {x : Int}
theorem mem_hrs : x ∈ hrs n p ↔ (0 ≤ x ∧ x < n) ∧ p x := by
  unfold hrs
  rw [List.mem_filter, mem_rgJ]
  simp
theorem hrs_asc : (hrs n p).Pairwise (· < ·) := (rgJ_asc n).filter _
theorem eq_hrs (h : r.Pairwise (· < ·)) (hm : ∀ x, x ∈ r ↔ (0 ≤ x ∧ x < n) ∧ p x) : r = hrs n p := asc_uniq h hrs_asc fun k => (hm k).trans mem_hrs.symm
theorem OkH.self (h : OkH n r) : r = hrs n (fun x => x ∈ r) := eq_hrs h.asc fun x => ⟨fun m => ⟨⟨h.lo x m, h.hi x m⟩, m⟩, fun m => m.2⟩
theorem OkH.eq_hrs (h : OkH n r) (hm : ∀ x, 0 ≤ x → x < n → (x ∈ r ↔ p x)) : r = hrs n p := Mi.eq_hrs h.asc fun x => ⟨fun m => ⟨⟨h.lo x m, h.hi x m⟩, (hm x (h.lo x m) (h.hi x m)).mp m⟩, fun m => (hm x m.1.1 m.1.2).mpr m.2⟩
end
end Mi
namespace Mi
open PySem PySem.Spec PyProof.Rows L2
section
variable {m x y c : Int} {A B C : List Int}
theorem modr (m0 : 0 < m) : 0 ≤ x % m ∧ x % m < m := ⟨Int.emod_nonneg _ (by omega), Int.emod_lt_of_pos _ m0⟩
theorem mod_id (h0 : 0 ≤ x) (h1 : x < m) : x % m = x := Int.emod_eq_of_lt h0 h1
theorem mod_mul_l : x % m * y % m = x * y % m := by rw [Int.mul_emod, Int.emod_emod_of_dvd _ (Int.dvd_refl m), ← Int.mul_emod]
/-- the opposite hours -/
noncomputable def negH (m : Int) (A : List Int) : List Int := hrs m fun z => ∃ a ∈ A, a * -1 % m = z
theorem neg_neg (o : OkH m A) : negH m (negH m A) = A := by
  have m0 : 0 < m := by have := o.n1; omega
  refine (o.eq_hrs fun x h0 h1 => ?_).symm
  constructor
  · intro hx
    refine ⟨x * -1 % m, mem_hrs.mpr ⟨modr m0, x, hx, rfl⟩, ?_⟩
    rw [mod_mul_l, show x * -1 * -1 = x by omega, mod_id h0 h1]
  · rintro ⟨b, hb, e⟩
    obtain ⟨_, a, ha, e2⟩ := mem_hrs.mp hb
    rw [← e2, mod_mul_l, show a * -1 * -1 = a by omega, mod_id (o.lo a ha) (o.hi a ha)] at e
    exact e ▸ ha
noncomputable def movH (m : Int) (A : List Int) (f : Int) : List Int := hrs m fun z => ∃ a ∈ A, (a + f) % m = z
end
end Mi
namespace Mi
open PySem PySem.Spec PyProof.Rows L2
def sm : List Int → Int
  | [] => 0
  | a :: l => a + sm l
end Mi
namespace Mi
open PySem PySem.Spec PyProof.Rows L2
@[simp] theorem fld_numbers {cl : List Nat} {M : MH} {a b c d : Int} : fldC fnC (14 :: cl) "numbers" (.d (rS a b c d)) M = some (.d (.tup [.int a, .int b, .int c, .int d])) := rfl
section
variable {i : Nat} {tl : List (Nat × Nat)} {G : Nat → Fn} {M : MH} {a b c d : Int} {y : VL} {f : PD → PD → Option PD} {fN : List PD → Option PD}
@[simp] theorem propC_r : propC ((14, i) :: tl) G (.d (rS a b c d)) M = okR (G i [.d (rS a b c d)] M) := rfl
@[simp] theorem ownIn_r : ownIn ((14, i) :: tl) G f y (.d (rS a b c d)) M = blR (G i [.d (rS a b c d), y] M) := rfl
@[simp] theorem ownNi_r : ownNi ((14, i) :: tl) G f y (.d (rS a b c d)) M = notR (G i [.d (rS a b c d), y] M) := rfl
@[simp] theorem mthC_listed : mthC fnC "listed" ((14, i) :: tl) (.d (rS a b c d)) M = some i := rfl
@[simp] theorem ownStr_r : ownStr ((14, i) :: tl) G fN (.d (rS a b c d)) M = strR (G i [.d (rS a b c d)] M) := rfl
end
end Mi
namespace Mi
open PySem PySem.Spec PyProof.Rows L2
end Mi
namespace Kn
open Mi
open Classical in
noncomputable def cd (m : Int) (P : Int → Prop) : Nat := (rgJ m).countP fun x => decide (P x)
def Pe (m : Int) (P : Int → Prop) : Prop := ∀ x, P (x + m) ↔ P x
def St (P : Int → Prop) (t : Int) : Prop := ∀ x, P (x + t) ↔ P x
section
variable {m x y t d : Int} {P Q A B C : Int → Prop}
theorem Pe.mul (h : Pe m P) : ∀ (k : Nat) (x : Int), P (x + k * m) ↔ P x
  | 0, x => by simp
  | k + 1, x => by
    have e : x + ((k + 1 : Nat) : Int) * m = x + k * m + m := by rw [Int.natCast_add, Int.add_mul]; simp; omega
    rw [e, h, Pe.mul h k]
theorem St.mul (h : St P t) : ∀ (k : Nat), St P (k * t)
  | 0 => fun x => by simp
  | k + 1 => fun x => by
    have e : x + ((k + 1 : Nat) : Int) * t = x + k * t + t := by rw [Int.natCast_add, Int.add_mul]; simp; omega
    rw [e, h, St.mul h k]
theorem St.neg (h : St P t) : St P (-t) := fun x => by
  have := h (x + -t)
  rw [show x + -t + t = x by omega] at this
  exact this.symm
theorem St.imul (h : St P t) (k : Int) : St P (k * t) := by
  rcases Int.le_total 0 k with q | q
  · have := h.mul k.toNat
    rwa [show (k.toNat : Int) = k by omega] at this
  · have := (h.mul (-k).toNat).neg
    rwa [show ((-k).toNat : Int) = -k by omega, Int.neg_mul, Int.neg_neg] at this
theorem St.mod (h : St P m) (x : Int) : P (x % m) ↔ P x := by
  have e := Int.emod_add_mul_ediv x m
  have := (h.imul (x / m)) (x % m)
  rw [show x % m + x / m * m = x by rw [Int.mul_comm] at e; omega] at this
  exact this.symm
end
end Kn
namespace Kn
open Mi
theorem cop_dvd {a b : Nat} {i : Int} (h : Nat.Coprime a b) (hd : (b : Int) ∣ i * a) : (b : Int) ∣ i := by
  have h1 : b ∣ i.natAbs * a := by
    have := Int.natAbs_dvd_natAbs.mpr hd
    rwa [Int.natAbs_mul, Int.natAbs_natCast, Int.natAbs_natCast] at this
  have h2 : b ∣ i.natAbs := Nat.Coprime.dvd_of_dvd_mul_right h.symm h1
  exact Int.natAbs_dvd_natAbs.mp (by rwa [Int.natAbs_natCast])
theorem small_dvd {b : Nat} {i j : Int} (i0 : 0 ≤ i) (i1 : i < b) (j0 : 0 ≤ j) (j1 : j < b) (h : (b : Int) ∣ i - j) : i = j := by
  obtain ⟨c, hc⟩ := h
  have : c = 0 := by
    refine Classical.byContradiction fun n => ?_
    rcases Int.lt_or_gt_of_ne n with q | q
    · have := Int.mul_le_mul_of_nonneg_left (show c ≤ -1 by omega) (show (0 : Int) ≤ b by omega)
      omega
    · have := Int.mul_le_mul_of_nonneg_left (show 1 ≤ c by omega) (show (0 : Int) ≤ b by omega)
      omega
  subst this
  omega
/-- two divisors of a clock -/
structure Two (m d1 d2 : Int) (g a b q : Nat) : Prop where
  g0 : 0 < g
  a0 : 0 < a
  b0 : 0 < b
  q0 : 0 < q
  e1 : d1 = g * a
  e2 : d2 = g * b
  em : m = q * (g * a * b)
  co : Nat.Coprime a b
theorem two {m d1 d2 : Int} (m0 : 0 < m) (h1 : 0 < d1) (h2 : 0 < d2) (v1 : d1 ∣ m) (v2 : d2 ∣ m) : ∃ g a b q, Two m d1 d2 g a b q := by
  obtain ⟨M, rfl⟩ : ∃ k : Nat, m = k := ⟨m.toNat, by omega⟩
  obtain ⟨D, rfl⟩ : ∃ k : Nat, d1 = k := ⟨d1.toNat, by omega⟩
  obtain ⟨E, rfl⟩ : ∃ k : Nat, d2 = k := ⟨d2.toNat, by omega⟩
  have v1 : D ∣ M := Int.natCast_dvd_natCast.mp v1
  have v2 : E ∣ M := Int.natCast_dvd_natCast.mp v2
  have g0 : 0 < Nat.gcd D E := Nat.gcd_pos_of_pos_left _ (by omega)
  obtain ⟨a, ha⟩ := Nat.gcd_dvd_left D E
  obtain ⟨b, hb⟩ := Nat.gcd_dvd_right D E
  have co : Nat.Coprime a b := by
    have := Nat.coprime_div_gcd_div_gcd g0
    rwa [Nat.div_eq_of_eq_mul_right g0 ha, Nat.div_eq_of_eq_mul_right g0 hb] at this
  generalize Nat.gcd D E = g at g0 ha hb
  obtain ⟨c, hc⟩ := v1
  have va : a ∣ a * c := ⟨c, rfl⟩
  have e : M = g * (a * c) := by rw [hc, ha, Nat.mul_assoc]
  have vb : b ∣ a * c := by
    rw [e, hb] at v2
    exact Nat.dvd_of_mul_dvd_mul_left g0 v2
  obtain ⟨q, hq⟩ := Nat.Coprime.mul_dvd_of_dvd_of_dvd co va vb
  have em : M = q * (g * a * b) := by rw [e, hq]; simp [Nat.mul_comm, Nat.mul_left_comm, Nat.mul_assoc]
  refine ⟨g, a, b, q, g0, Nat.pos_of_ne_zero ?_, Nat.pos_of_ne_zero ?_, Nat.pos_of_ne_zero ?_, by rw [ha]; simp, by rw [hb]; simp, by rw [em]; simp, co⟩
  · rintro rfl
    simp at ha
    omega
  · rintro rfl
    simp at hb
    omega
  · rintro rfl
    simp at em
    omega
section
variable {m d1 d2 x : Int} {g a b q : Nat} {C1 C2 : Int → Prop}
theorem Two.inj (T : Two m d1 d2 g a b q) {i i' j j' k k' : Nat} (hi : i < b) (hi' : i' < b) (hj : j < a) (hj' : j' < a) (hk : k < q) (hk' : k' < q)
    (h : (x + i * d1 + j * d2 + k * (g * a * b)) % m = (x + i' * d1 + j' * d2 + k' * (g * a * b)) % m) : i = i' ∧ j = j' ∧ k = k' := by
  have dm : m ∣ (x + i * d1 + j * d2 + k * (g * a * b)) - (x + i' * d1 + j' * d2 + k' * (g * a * b)) := Int.dvd_of_emod_eq_zero (by rw [Int.sub_emod, h, Int.sub_self, Int.zero_emod])
  have g0 := T.g0
  have a0 := T.a0
  have b0 := T.b0
  have e : (x + i * d1 + j * d2 + k * (g * a * b)) - (x + i' * d1 + j' * d2 + k' * (g * a * b)) = g * (((i : Int) - i') * a + ((j : Int) - j') * b + ((k : Int) - k') * (a * b)) := by
    rw [T.e1, T.e2]
    simp only [Int.mul_add, Int.sub_mul, Int.mul_sub]
    simp only [Int.mul_assoc, Int.mul_left_comm, Int.mul_comm]
    omega
  rw [e, T.em] at dm
  have dm2 : (q : Int) * (a * b) ∣ ((i : Int) - i') * a + ((j : Int) - j') * b + ((k : Int) - k') * (a * b) := by
    obtain ⟨c, hc⟩ := dm
    refine ⟨c, Int.eq_of_mul_eq_mul_left (show (g : Int) ≠ 0 by omega) ?_⟩
    rw [hc]
    simp only [Int.mul_assoc, Int.mul_left_comm, Int.mul_comm]
  have db : (b : Int) ∣ (q : Int) * (a * b) := ⟨q * a, by simp only [Int.mul_assoc, Int.mul_left_comm, Int.mul_comm]⟩
  have da : (a : Int) ∣ (q : Int) * (a * b) := ⟨q * b, by simp only [Int.mul_assoc, Int.mul_left_comm, Int.mul_comm]⟩
  have hI : (b : Int) ∣ ((i : Int) - i') * a := by
    have h1 := Int.dvd_trans db dm2
    have h2 : (b : Int) ∣ ((j : Int) - j') * b + ((k : Int) - k') * (a * b) := ⟨((j : Int) - j') + ((k : Int) - k') * a, by simp only [Int.mul_add]; simp only [Int.mul_assoc, Int.mul_left_comm, Int.mul_comm]⟩
    rw [Int.add_assoc] at h1
    exact (Int.dvd_iff_dvd_of_dvd_add h1).mpr h2
  have hJ : (a : Int) ∣ ((j : Int) - j') * b := by
    have h1 := Int.dvd_trans da dm2
    have h2 : (a : Int) ∣ ((i : Int) - i') * a + ((k : Int) - k') * (a * b) := ⟨((i : Int) - i') + ((k : Int) - k') * b, by simp only [Int.mul_add]; simp only [Int.mul_assoc, Int.mul_left_comm, Int.mul_comm]⟩
    rw [show ((i : Int) - i') * a + ((j : Int) - j') * b + ((k : Int) - k') * (a * b) = ((j : Int) - j') * b + (((i : Int) - i') * a + ((k : Int) - k') * (a * b)) by omega] at h1
    exact (Int.dvd_iff_dvd_of_dvd_add h1).mpr h2
  have ii : (i : Int) = i' := small_dvd (by omega) (by omega) (by omega) (by omega) (cop_dvd T.co hI)
  have jj : (j : Int) = j' := small_dvd (by omega) (by omega) (by omega) (by omega) (cop_dvd T.co.symm hJ)
  rw [ii, jj, Int.sub_self, Int.zero_mul, Int.sub_self, Int.zero_mul, Int.zero_add, Int.zero_add] at dm2
  have ab : (a : Int) * b ≠ 0 := by
    have := Int.mul_pos (show (0 : Int) < a by omega) (show (0 : Int) < b by omega)
    omega
  have hK : (q : Int) ∣ (k : Int) - k' := Int.dvd_of_mul_dvd_mul_right ab dm2
  have kk : (k : Int) = k' := small_dvd (by omega) (by omega) (by omega) (by omega) hK
  exact ⟨by omega, by omega, by omega⟩
end
end Kn
namespace Kn
open Mi
open Classical
end Kn
namespace Kn
open Mi
end Kn
namespace Kn
open Mi
end Kn
namespace Mi
open PySem PySem.Spec PyProof.Rows L2
/-- the least divisor of the clock by which a set may be moved -/
structure IsPer (m : Int) (A : List Int) (p : Int) : Prop where
  pos : 0 < p
  dvd : p ∣ m
  stay : movH m A p = A
  least : ∀ d, 0 < d → d ∣ m → movH m A d = A → p ≤ d
section
variable {m p q x y : Int} {A B : List Int}
theorem IsPer.uniq (h : IsPer m A p) (h' : IsPer m A q) : p = q := by
  have := h.least q h'.pos h'.dvd h'.stay
  have := h'.least p h.pos h.dvd h.stay
  omega
end
end Mi
namespace Mi
open Kn
end Mi
namespace Kn
open Mi
/-- the remainders of a set by d -/
def cls (d : Int) (A : Int → Prop) (x : Int) : Prop := ∃ a, A a ∧ d ∣ x - a
noncomputable def sc (d : Int) : List (Int → Prop) → Nat
  | [] => 0
  | A :: L => cd d (cls d A) + sc d L
end Kn
namespace Mi
open Kn
end Mi
namespace Mi
open PySem PySem.Spec PyProof.Rows L2
end Mi
namespace Mi
open PySem PySem.Spec PyProof.Rows L2
/-- how many classes of d hours are apart -/
def apC (t d : Int) : Int := (d - 2) / (2 * t + 1) + 1
def ApL (k t m d : Int) : Prop := IsLeast k (fun d => -apC t d * (k / d)) m d
end Mi
namespace Mi
open Kn
end Mi
namespace Mi
open PySem PySem.Spec PyProof.Rows L2
abbrev RcL (k t m d : Int) : Prop := IsLeast k (fun d => -d * up (k / d - 1) t) m d
section
variable {k t t' m m' d d' r e : Int}
abbrev FoL (k r t m d : Int) : Prop := IsLeast k (fun d => (t * up r d - t + 1) * d) m d
end
end Mi
namespace Mi
open PySem PySem.Spec PyProof.Rows L2
section
variable {M l : MH} {a b c : MO}
theorem st1 : (M ++ a :: b :: l).set (M.length + 1) c = M ++ a :: c :: l := by
  rw [List.set_append_right _ _ (by omega)]
  simp
end
end Mi
namespace Mi
open PySem PySem.Spec PyProof.Rows L2
end Mi
namespace Mi
open PySem PySem.Spec PyProof.Rows L2
def dOrR (v : VL) (P : PD → Prop) (Q : Nat → Prop) : Prop := match v with
  | .d x => P x
  | .r k => Q k
@[simp] theorem dOrR_d {x : PD} {P : PD → Prop} {Q : Nat → Prop} : dOrR (.d x) P Q ↔ P x := Iff.rfl
@[simp] theorem dOrR_r {k : Nat} {P : PD → Prop} {Q : Nat → Prop} : dOrR (.r k) P Q ↔ Q k := Iff.rfl
section
variable {Q : VL → MH → Prop} {E : EW} {M : MH} {ρ : EV}
@[simp] theorem wpo_seqA {g : EX} {Q : List PD → MH → Prop} : wpo (iSeqA g ρ M) Q E ↔ wpo (g ρ M) (fun v M1 => dOrR v (fun x => wpD (itD x) fun ds => Q ds M1) (fun k => wpD M1[k]? fun mo => wpD (moL mo) fun ds => Q ds (M1.set k .gone))) E := by
  unfold iSeqA; rw [wpo_bnd]
  have key : ∀ v M1, wpo (match v with
      | .d x => (match itD x with
        | some ds => some (Rs.ok ds M1)
        | none => none)
      | .r k => (match M1[k]? with
        | some (.lst ds) => some (.ok ds (M1.set k .gone))
        | _ => none)) Q E ↔ dOrR v (fun x => wpD (itD x) fun ds => Q ds M1) (fun k => wpD M1[k]? fun mo => wpD (moL mo) fun ds => Q ds (M1.set k .gone)) := fun v M1 => by
    cases v with
    | d x =>
      dsimp only [dOrR]
      cases itD x <;> exact Iff.rfl
    | r k =>
      dsimp only [dOrR]
      cases M1[k]? with
      | none => exact Iff.rfl
      | some mo => cases mo <;> exact Iff.rfl
  constructor <;> intro h <;> refine wpo_mono h fun v M1 h => ?_
  · exact (key v M1).mp h
  · exact (key v M1).mpr h
@[simp] theorem wpo_getK2 {g h f : EX} : wpo (eGetK2 g h f ρ M) Q E ↔ wpo (g ρ M) (fun x M1 => isDc M1 x = true ∧ wpo (h ρ M1) (fun y M2 => wpo (f ρ M2) (fun z M3 => wpD (dv M3 x) fun a => wpD (dv M3 y) fun b => isDt z fun c => wpD (getKD2 a b c) fun d => Q (.d d) M3) E) E) E := by
  unfold eGetK2; rw [wpo_bnd]
  have key : ∀ x y z M3, wpo (op3 getKD2 x y z M3) Q E ↔ wpD (dv M3 x) fun a => wpD (dv M3 y) fun b => isDt z fun c => wpD (getKD2 a b c) fun d => Q (.d d) M3 := fun x y z M3 => by
    unfold op3
    cases h1 : dv M3 x with
    | none => simp
    | some a =>
      cases h2 : dv M3 y with
      | none => simp
      | some b =>
        cases z with
        | r k => simp [isDt]
        | d c =>
          show wpo (okD M3 (getKD2 a b c)) Q E ↔ _
          cases h3 : getKD2 a b c <;> simp [okD, h3]
  constructor <;> intro h <;> refine wpo_mono h fun x M1 h => ?_
  · by_cases hd : isDc M1 x = true
    · rw [if_pos hd, wpo_bnd] at h
      refine ⟨hd, wpo_mono h fun y M2 h => ?_⟩
      rw [wpo_bnd] at h
      exact wpo_mono h fun z M3 h => (key x y z M3).mp h
    · rw [if_neg hd] at h
      exact h.elim
  · rw [if_pos h.1, wpo_bnd]
    refine wpo_mono h.2 fun y M2 h => ?_
    rw [wpo_bnd]
    exact wpo_mono h fun z M3 h => (key x y z M3).mpr h
@[simp] theorem wpo_mutL {g : EX} : wpo (eMutL g ρ M) Q E ↔ wpo (g ρ M) (fun x M1 => wpo (mutL x M1) Q E) E := wpo_bnd
@[simp] theorem mutL_l {ds : List PD} : wpo (mutL (.d (.lst ds)) M) Q E ↔ Q (.r M.length) (M ++ [.lst ds]) := Iff.rfl
@[simp] theorem mutL_t {ds : List PD} : wpo (mutL (.d (.tup ds)) M) Q E ↔ Q (.r M.length) (M ++ [.lst ds]) := Iff.rfl
@[simp] theorem wpo_mutRg {g : EX} : wpo (eMutRg g ρ M) Q E ↔ wpo (g ρ M) (fun x M1 => wpo (mutRg x M1) Q E) E := wpo_bnd
@[simp] theorem mutRg_i {j : Int} : wpo (mutRg (.d (.int j)) M) Q E ↔ rgOk 0 j = true ∧ Q (.r M.length) (M ++ [.lst (rangeL 0 j)]) := by
  show wpo (if rgOk 0 j = true then _ else _) Q E ↔ _
  by_cases h : rgOk 0 j = true
  · rw [if_pos h]; exact ⟨fun q => ⟨h, q⟩, fun q => q.2⟩
  · rw [if_neg h]; exact ⟨fun q => q.elim, fun q => h q.1⟩
end
end Mi
namespace Mi
open PySem PySem.Spec PyProof.Rows L2
end Mi
namespace Mi
open PySem PySem.Spec PyProof.Rows L2
end Mi
namespace Mi
open PySem PySem.Spec PyProof.Rows L2
abbrev LsL (k r t m d : Int) : Prop := IsLeast k (fun d => (up r d + up t d - 1) * d) m d
section
variable {tab : Nat → Option Body} {n : Nat} {M : MH} {k r s t : Int}
theorem cert_least_i (h : TP tab) (k1 : 1 ≤ k) (k2 : k ≤ 10 ^ 9) (hr : 1 ≤ r ∧ r ≤ k) (hs : 1 ≤ s ∧ s ≤ k) : ∃ m d, LsL k r s m d ∧ GG tab (n + 5) 124 [.d (.int k), .d (.int r), .d (.int s)] M = some (.ok (.d (.tup [.tup [.str "least", .int k, .int r, .int s, .int m], .int d])) M) := by
  obtain ⟨m, d, hm, e⟩ := least_divisor_i (n := n + 2) (M := M) h k1 (by omega) (r := r) (s := s) ⟨by omega, by omega⟩ ⟨by omega, by omega⟩
  have c : GG tab (n + 4) 68 [.d (.int k), .d (.int r), .d (.int s)] M = some (.ok (.d .non) M) := by
    refine eq_of_wpo ((wpo_GG h.p68).mpr ?_)
    simp [andThen_nx, b_clocks_check_sizes, check_clock_i h k1 (show k ≤ 1000000000 by omega), check_size_i h hr.1 hr.2, check_size_i h hs.1 hs.2]
  refine ⟨m, d, hm, eq_of_wpo ((wpo_GG h.p124).mpr ?_)⟩
  simp [andThen_nx, b_certificates_certify_least, c, e]
theorem cert_fold_i (h : TP tab) (k1 : 1 ≤ k) (k2 : k ≤ 10 ^ 9) (hr : 1 ≤ r ∧ r ≤ k) (ht : 0 ≤ t ∧ t ≤ 10 ^ 30) : ∃ m d, FoL k r t m d ∧ GG tab (n + 5) 125 [.d (.int k), .d (.int r), .d (.int t)] M = some (.ok (.d (.tup [.tup [.str "fold", .int k, .int r, .int t, .int m], .int d])) M) := by
  obtain ⟨m, d, hm, e⟩ := fold_divisor_i (n := n + 2) (M := M) h k1 (by omega) (r := r) (t := t) ⟨by omega, by omega⟩ ⟨by omega, by omega⟩
  have c : GG tab (n + 4) 69 [.d (.int k), .d (.int r), .d (.int t)] M = some (.ok (.d .non) M) := by
    refine eq_of_wpo ((wpo_GG h.p69).mpr ?_)
    simp [andThen_nx, b_clocks_check_fold, check_clock_i h k1 (show k ≤ 1000000000 by omega), check_size_i h hr.1 hr.2, check_times_i h ht.1 ht.2]
  refine ⟨m, d, hm, eq_of_wpo ((wpo_GG h.p125).mpr ?_)⟩
  simp [andThen_nx, b_certificates_certify_fold, c, e]
theorem cert_reach_i (h : TP tab) (k1 : 1 ≤ k) (k2 : k ≤ 10 ^ 9) (ht : 1 ≤ t ∧ t ≤ 10 ^ 30) : ∃ m d, RcL k t m d ∧ GG tab (n + 5) 126 [.d (.int k), .d (.int t)] M = some (.ok (.d (.tup [.tup [.str "reach", .int k, .int t, .int (1 - m)], .int d])) M) := by
  obtain ⟨m, d, hm, e⟩ := reach_divisor_i (n := n + 2) (M := M) h k1 (by omega) (t := t) (by omega) ⟨by omega, by omega⟩
  refine ⟨m, d, hm, eq_of_wpo ((wpo_GG h.p126).mpr ?_)⟩
  simp [andThen_nx, b_certificates_certify_reach, check_asked_i (n := n + 1) h k1 k2 ht, e]
theorem cert_apart_i (h : TP tab) (k1 : 1 ≤ k) (k2 : k ≤ 10 ^ 9) (ht : 1 ≤ t ∧ t ≤ 10 ^ 30) : ∃ m d, ApL k t m d ∧ GG tab (n + 5) 127 [.d (.int k), .d (.int t)] M = some (.ok (.d (.tup [.tup [.str "apart", .int k, .int t, .int (-m)], .int d])) M) := by
  obtain ⟨m, d, hm, e⟩ := apart_divisor_i (n := n + 2) (M := M) h (k := k) (by omega) (by omega) (t := t) (by omega) ⟨by omega, by omega⟩
  refine ⟨m, d, hm, eq_of_wpo ((wpo_GG h.p127).mpr ?_)⟩
  simp [andThen_nx, b_certificates_certify_apart, check_asked_i (n := n + 1) h k1 k2 ht, e]
end
end Mi
namespace Mi
open PySem PySem.Spec PyProof.Rows L2
def wds : List Key := [.inr "least", .inr "fold", .inr "reach", .inr "apart"]
theorem up_law62 {a d : Int} (h : 1 ≤ d) : (a + d - 1) / d = up a d := by
  have u := up_spec a (d := d) (by omega)
  have q1 : up a d ≤ (a + d - 1) / d := by
    rw [Int.le_ediv_iff_mul_le (by omega)]
    have := u.2
    have e2 : (up a d - 1) * d = up a d * d - d := by rw [Int.sub_mul]; omega
    omega
  have q2 : (a + d - 1) / d < up a d + 1 := by
    rw [Int.ediv_lt_iff_lt_mul (by omega)]
    have := u.1
    have e2 : (up a d + 1) * d = up a d * d + d := by rw [Int.add_mul]; omega
    omega
  omega
theorem up_0 {a d : Int} (h0 : 0 ≤ a) (hd : 1 ≤ d) : 0 ≤ up a d := by
  rcases Int.lt_or_eq_of_le h0 with h | h
  · have := up_pos h (show 0 < d by omega)
    omega
  · subst h
    have := up_spec 0 (show 0 < d by omega)
    apply Decidable.byContradiction
    intro z
    have q := this.1
    have : up 0 d * d ≤ -1 * d := Int.mul_le_mul_of_nonneg_right (by omega) (by omega)
    omega
def nL (x y d : Int) : Int := (up x d + up y d - 1) * d
def nF (x t d : Int) : Int := (t * up x d - t + 1) * d
def nR (m t d : Int) : Int := -up (m / d - 1) t * d
def nA (m t d : Int) : Int := -((d - 2) / (2 * t + 1) + 1) * (m / d)
section
variable {M : MH} {a b c d e x : MO}
theorem g5_0 : (M ++ [a, b, c, d, e])[M.length]? = some a := by simp
theorem g5_1 : (M ++ [a, b, c, d, e])[M.length + 1]? = some b := by simp
theorem g5_2 : (M ++ [a, b, c, d, e])[M.length + 2]? = some c := by simp
theorem g5_3 : (M ++ [a, b, c, d, e])[M.length + 3]? = some d := by simp
theorem g5_4 : (M ++ [a, b, c, d, e])[M.length + 4]? = some e := by simp
theorem s5_0 : (M ++ [a, b, c, d, e]).set M.length x = M ++ [x, b, c, d, e] := by simp
theorem s5_1 : (M ++ [a, b, c, d, e]).set (M.length + 1) x = M ++ [a, x, c, d, e] := by simp
theorem s5_2 : (M ++ [a, b, c, d, e]).set (M.length + 2) x = M ++ [a, b, x, d, e] := by simp
theorem s5_3 : (M ++ [a, b, c, d, e]).set (M.length + 3) x = M ++ [a, b, c, x, e] := by simp
theorem s5_4 : (M ++ [a, b, c, d, e]).set (M.length + 4) x = M ++ [a, b, c, d, x] := by simp
end
def L4 (M : MH) : List VL := [.r M.length, .r (M.length + 1), .r (M.length + 2), .r (M.length + 3)]
def M5 (M : MH) (A B C D : List Int) : MH := M ++ [.lst (A.map .int), .lst (B.map .int), .lst (C.map .int), .lst (D.map .int), .dcr wds (L4 M)]
theorem frz5 {M : MH} {A B C D : List Int} : ∃ M', frzR (.r (M.length + 4)) (M5 M A B C D) = some (.ok (.d (.dct wds [.lst (A.map .int), .lst (B.map .int), .lst (C.map .int), .lst (D.map .int)])) M') ∧ M'.take M.length = M := by
  refine ⟨M ++ [.gone, .gone, .gone, .gone, .gone], ?_, by simp⟩
  unfold frzR M5 L4
  dsimp only
  rw [g5_4]
  dsimp only
  have : frzL [VL.r M.length, VL.r (M.length + 1), VL.r (M.length + 2), VL.r (M.length + 3)] (M ++ [MO.lst (A.map .int), .lst (B.map .int), .lst (C.map .int), .lst (D.map .int), .dcr wds [VL.r M.length, VL.r (M.length + 1), VL.r (M.length + 2), VL.r (M.length + 3)]]) = some ([.lst (A.map .int), .lst (B.map .int), .lst (C.map .int), .lst (D.map .int)], M ++ [MO.gone, .gone, .gone, .gone, .dcr wds [VL.r M.length, VL.r (M.length + 1), VL.r (M.length + 2), VL.r (M.length + 3)]]) := by
    unfold frzL
    rw [g5_0]
    dsimp only
    rw [s5_0]
    unfold frzL
    rw [g5_1]
    dsimp only
    rw [s5_1]
    unfold frzL
    rw [g5_2]
    dsimp only
    rw [s5_2]
    unfold frzL
    rw [g5_3]
    dsimp only
    rw [s5_3]
    unfold frzL
    rfl
  rw [this]
  dsimp only
  rw [s5_4]
section
variable {tab : Nat → Option Body} {n : Nat} {M l : MH} {m x y t : Int}
theorem upl_i (h : TL tab) {a d : Int} (d1 : 1 ≤ d) (d2 : d ≤ 10 ^ 40) : GG tab (n + 1) 1009 [.d (.int a), .d (.int d)] M = some (.ok (.d (.int (up a d))) M) := by
  refine eq_of_wpo ((wpo_GG h.t1009).mpr ⟨rfl, ?_⟩)
  simp [b_law_law_up, up_law62 d1]
  exact divOk_of (by omega) (by omega)
variable {A B C D : List Int}
theorem m5_0 : (M5 M A B C D)[M.length]? = some (.lst (A.map .int)) := g5_0
theorem m5_1 : (M5 M A B C D)[M.length + 1]? = some (.lst (B.map .int)) := g5_1
theorem m5_2 : (M5 M A B C D)[M.length + 2]? = some (.lst (C.map .int)) := g5_2
theorem m5_3 : (M5 M A B C D)[M.length + 3]? = some (.lst (D.map .int)) := g5_3
theorem m5_4 : (M5 M A B C D)[M.length + 4]? = some (.dcr wds (L4 M)) := g5_4
theorem p5_0 {z : Int} : (M5 M A B C D).set M.length (.lst (A.map .int ++ [.int z])) = M5 M (A ++ [z]) B C D := by rw [show A.map PD.int ++ [.int z] = (A ++ [z]).map .int by simp]; exact s5_0
theorem p5_1 {z : Int} : (M5 M A B C D).set (M.length + 1) (.lst (B.map .int ++ [.int z])) = M5 M A (B ++ [z]) C D := by rw [show B.map PD.int ++ [.int z] = (B ++ [z]).map .int by simp]; exact s5_1
theorem p5_2 {z : Int} : (M5 M A B C D).set (M.length + 2) (.lst (C.map .int ++ [.int z])) = M5 M A B (C ++ [z]) D := by rw [show C.map PD.int ++ [.int z] = (C ++ [z]).map .int by simp]; exact s5_2
theorem p5_3 {z : Int} : (M5 M A B C D).set (M.length + 3) (.lst (D.map .int ++ [.int z])) = M5 M A B C (D ++ [z]) := by rw [show D.map PD.int ++ [.int z] = (D ++ [z]).map .int by simp]; exact s5_3
theorem i5_0 : idxR (.r (M.length + 4)) (.d (.str "least")) (M5 M A B C D) = some (.ok (.r M.length) (M5 M A B C D)) := idxR_at m5_4 rfl
theorem i5_1 : idxR (.r (M.length + 4)) (.d (.str "fold")) (M5 M A B C D) = some (.ok (.r (M.length + 1)) (M5 M A B C D)) := idxR_at m5_4 rfl
theorem i5_2 : idxR (.r (M.length + 4)) (.d (.str "reach")) (M5 M A B C D) = some (.ok (.r (M.length + 2)) (M5 M A B C D)) := idxR_at m5_4 rfl
theorem i5_3 : idxR (.r (M.length + 4)) (.d (.str "apart")) (M5 M A B C D) = some (.ok (.r (M.length + 3)) (M5 M A B C D)) := idxR_at m5_4 rfl
theorem numbers_i (h : TL tab) {L : List Int} (m1 : 1 ≤ m) (m2 : m ≤ 10 ^ 9) (hL : ∀ d ∈ L, 1 ≤ d ∧ d ≤ m) (lL : L.length ≤ 4000) (hx : 1 ≤ x ∧ x ≤ m) (hy : 1 ≤ y ∧ y ≤ m) (ht : 1 ≤ t ∧ t ≤ 10 ^ 30) :
    GG tab (n + 2) 1010 [.d (.int m), .d (.lst [.int x, .int y]), .d (.int t), .d (.lst (L.map .int))] M = some (.ok (.d (.dct wds [.lst ((L.map (nL x y)).map .int), .lst ((L.map (nF x t)).map .int), .lst ((L.map (nR m t)).map .int), .lst ((L.map (nA m t)).map .int)])) M) := by
  refine eq_of_wpo ((wpo_GG h.t1010).mpr ⟨rfl, ?_⟩)
  simp only [b_law_law_numbers]
  rw [wps_seq]
  simp
  rw [andThen_nx, wps_seq, wps_for0]
  simp
  obtain ⟨PA, hA⟩ : ∃ PA : Nat → List Int, ∀ j, PA j = (L.take j).map (nL x y) := ⟨_, fun _ => rfl⟩
  obtain ⟨PB, hB⟩ : ∃ PB : Nat → List Int, ∀ j, PB j = (L.take j).map (nF x t) := ⟨_, fun _ => rfl⟩
  obtain ⟨PC, hC⟩ : ∃ PC : Nat → List Int, ∀ j, PC j = (L.take j).map (nR m t) := ⟨_, fun _ => rfl⟩
  obtain ⟨PE_, hE⟩ : ∃ PE_ : Nat → List Int, ∀ j, PE_ j = (L.take j).map (nA m t) := ⟨_, fun _ => rfl⟩
  refine wps_forL (fun j ρ M' => ∃ (o5 o6 o7 o8 : Option VL), ρ = [some (.d (.int m)), some (.d (.lst [.int x, .int y])), some (.d (.int t)), some (.d (.lst (L.map .int))), some (.r (M.length + 4)), o5, o6, o7, o8] ∧ M' = M5 M (PA j) (PB j) (PC j) (PE_ j)) ?_ ?_ ?_
  · refine ⟨_, _, _, _, rfl, ?_⟩
    rw [hA, hB, hC, hE]
    rfl
  · rintro j d ρ M' hd ⟨o5, o6, o7, o8, rfl, rfl⟩
    obtain ⟨dz, hdz, rfl⟩ : ∃ dz, L[j]? = some dz ∧ d = .int dz := by
      rw [List.getElem?_map] at hd
      cases hq : L[j]? with
      | none => rw [hq] at hd; cases hd
      | some dz => rw [hq] at hd; cases hd; exact ⟨dz, rfl, rfl⟩
    have hj : j < L.length := (List.getElem?_eq_some_iff.mp hdz).1
    obtain ⟨d1, d2⟩ := hL dz (List.mem_of_getElem? hdz)
    have tk : ∀ f : Int → Int, (L.take (j + 1)).map f = (L.take j).map f ++ [f dz] := fun f => by
      rw [List.take_succ, hdz, List.map_append]
      rfl
    have nA1 : PA (j + 1) = PA j ++ [nL x y dz] := by rw [hA, hA, tk]
    have nB1 : PB (j + 1) = PB j ++ [nF x t dz] := by rw [hB, hB, tk]
    have nC1 : PC (j + 1) = PC j ++ [nR m t dz] := by rw [hC, hC, tk]
    have nE1 : PE_ (j + 1) = PE_ j ++ [nA m t dz] := by rw [hE, hE, tk]
    have lA : LtSz (PA j).length := ltSz_of (by rw [hA, List.length_map, List.length_take]; omega)
    have lB : LtSz (PB j).length := ltSz_of (by rw [hB, List.length_map, List.length_take]; omega)
    have lC : LtSz (PC j).length := ltSz_of (by rw [hC, List.length_map, List.length_take]; omega)
    have lE : LtSz (PE_ j).length := ltSz_of (by rw [hE, List.length_map, List.length_take]; omega)
    generalize PA j = A at *
    generalize PB j = B at *
    generalize PC j = C at *
    generalize PE_ j = D at *
    have lcu : ∀ ρ : EV, ∀ M : MH, 8 < ρ.length → ρ[5]? = some (some (.d (.int dz))) → lcL (bd1 8) tYs (eApp (GG tab (n + 1) 1009) (aCons (eVar 8) (aCons (eVar 5) (aNil)))) [.int x, .int y] ρ M = some ([.int (up x dz), .int (up y dz)], M) := fun ρ M hl h5 => by
      have w : ∀ z : Int, eApp (GG tab (n + 1) 1009) (aCons (eVar 8) (aCons (eVar 5) (aNil))) (ρ.set 8 (some (.d (.int z)))) M = some (.ok (.d (.int (up z dz))) M) := fun z => eq_of_wpo (by
        have g5 : (ρ.set 8 (some (.d (.int z))))[5]? = some (some (.d (.int dz))) := by rw [List.getElem?_set_ne (by omega)]; exact h5
        have g8 : (ρ.set 8 (some (.d (.int z))))[8]? = some (some (.d (.int z))) := List.getElem?_set_self hl
        simp [g5, g8, upl_i (n := n) h (a := z) (d := dz) d1 (by omega)])
      simp [lcL, okOnly, tYs, w]
    have u1 := up_id' (a := x) (d := dz) (by omega) d1
    have u2 := up_id' (a := y) (d := dz) (by omega) d1
    have v1 := up_pos (a := x) (d := dz) (by omega) (by omega)
    have v2 := up_pos (a := y) (d := dz) (by omega) (by omega)
    have q0 : 1 ≤ m / dz := (Int.le_ediv_iff_mul_le (by omega)).mpr (by omega)
    have q1 : m / dz ≤ m := Int.ediv_le_self _ (by omega)
    have b1 : 0 ≤ t * up x dz := Int.mul_nonneg (by omega) (by omega)
    have b2 : t * up x dz ≤ 10 ^ 30 * 10 ^ 9 := Int.mul_le_mul (by omega) (by omega) (by omega) (by omega)
    obtain ⟨a1, a2⟩ := apart_bd (d := dz) (y := t) d1 ht.1
    have rr : ∀ M : MH, GG tab (n + 1) 1009 [.d (.int (m / dz - 1)), .d (.int t)] M = some (.ok (.d (.int (up (m / dz - 1) t))) M) := fun M => upl_i (n := n) h ht.1 (by omega)
    have dvz : DivOk dz := divOk_of (by omega) (by omega)
    have dvt : DivOk (2 * t + 1) := divOk_of (by omega) (by omega)
    have mo1 : MulOk (up x dz + up y dz - 1) dz := mulOk_of ⟨by omega, by omega⟩ ⟨by omega, by omega⟩
    have mo2 : MulOk t (up x dz) := mulOk_of ⟨by omega, by omega⟩ ⟨by omega, by omega⟩
    have mo3 : MulOk (t * up x dz - t + 1) dz := mulOk_of ⟨by omega, by omega⟩ ⟨by omega, by omega⟩
    have r0 := up_0 (a := m / dz - 1) (by omega) ht.1
    have r1 := up_id' (a := m / dz - 1) (by omega) ht.1
    have mo4 : MulOk (-up (m / dz - 1) t) dz := mulOk_of ⟨by omega, by omega⟩ ⟨by omega, by omega⟩
    have mo5 : MulOk 2 t := mulOk_of ⟨by omega, by omega⟩ ⟨by omega, by omega⟩
    have mo6 : MulOk (-((dz - 2) / (2 * t + 1) + 1)) (m / dz) := mulOk_of ⟨by omega, by omega⟩ ⟨by omega, by omega⟩
    simp [wipeE]
    rw [lcu _ _ (by simp) rfl]
    simp [dvz, szOk_of (show 2 ≤ 16000000 by omega)]
    rw [andThen_nx, wps_seq]
    simp [i5_0, m5_0, mo1, lA, p5_0]
    rw [andThen_nx, wps_seq]
    simp [i5_1, m5_1, mo2, mo3, lB, p5_1]
    rw [andThen_nx, wps_seq]
    simp [i5_2, m5_2, rr, mo4, lC, p5_2]
    rw [andThen_nx]
    simp [i5_3, m5_3, mo5, dvt, mo6, lE, p5_3]
    rw [nA1, nB1, nC1, nE1]
    rfl
  · rintro ρ M' ⟨o5, o6, o7, o8, rfl, rfl⟩
    rw [List.length_map, hA, hB, hC, hE, List.take_length]
    rw [andThen_nx]
    obtain ⟨M', e, tk⟩ := frz5 (M := M) (A := L.map (nL x y)) (B := L.map (nF x t)) (C := L.map (nR m t)) (D := L.map (nA m t))
    simp only [List.map_map] at e
    simp [e, retM, tk]
theorem acd_least (h : TP tab) {k r s v e : Int} (hl : LsL k r s v e) (k1 : 1 ≤ k) (k2 : k ≤ 10 ^ 9) (hr : 1 ≤ r ∧ r ≤ k) (hs : 1 ≤ s ∧ s ≤ k) {d z : Int} (d0 : 0 < d) (dk : d ∣ k) : GG tab (n + 4) 109 [.d (.tup [.str "least", .int k, .int r, .int s, .int z]), .d (.int d)] M = some (.ok (.d (.bl (decide (nL r s d = v ∧ z = v)))) M) := by
  obtain ⟨b, g, q⟩ := accepts_least (n := n) (M := M) h (c := .int k) (r := .int r) (s := .int s) (t := .int z) (p := .int d) kn_i kn_i kn_i kn_i kn_i
  obtain ⟨e0, ek, ev, mn⟩ := hl
  have dl := Int.le_of_dvd (show 0 < k by omega) dk
  have : b = decide (nL r s d = v ∧ z = v) := by
    rw [Bool.eq_iff_iff, q, decide_eq_true_iff]
    constructor
    · rintro ⟨k', r', s', x', d', e1, e2, e3, e4, e5, _, _, _, _, _, _, _, _, _, e6, e7⟩
      cases e1; cases e2; cases e3; cases e4; cases e5
      have a1 := (mn _ d0 dk).1
      have a2 := e7 e e0 ek
      have e8 : nL r s d = v := by
        show kfL r s d = v
        dsimp only at a1 ev
        have a2 : kfL r s d ≤ v := by rw [ev]; exact a2
        have a1 : v ≤ kfL r s d := a1
        omega
      exact ⟨e8, e6.trans e8⟩
    · rintro ⟨e8, rfl⟩
      exact ⟨k, r, s, z, d, rfl, rfl, rfl, rfl, rfl, k1, k2, hr.1, hr.2, hs.1, hs.2, by omega, dl, dk, e8.symm, fun w w0 wk => by
        have a1 := (mn w w0 wk).1
        show nL r s d ≤ _
        rw [e8]
        exact a1⟩
  rw [g, this]
theorem acd_fold (h : TP tab) {k r t v e : Int} (hl : FoL k r t v e) (k1 : 1 ≤ k) (k2 : k ≤ 10 ^ 9) (hr : 1 ≤ r ∧ r ≤ k) (ht : 0 ≤ t ∧ t ≤ 10 ^ 30) {d z : Int} (d0 : 0 < d) (dk : d ∣ k) : GG tab (n + 4) 109 [.d (.tup [.str "fold", .int k, .int r, .int t, .int z]), .d (.int d)] M = some (.ok (.d (.bl (decide (nF r t d = v ∧ z = v)))) M) := by
  obtain ⟨b, g, q⟩ := accepts_fold (n := n) (M := M) h (c := .int k) (r := .int r) (s := .int t) (t := .int z) (p := .int d) kn_i kn_i kn_i kn_i kn_i
  obtain ⟨e0, ek, ev, mn⟩ := hl
  have dl := Int.le_of_dvd (show 0 < k by omega) dk
  have kf : ∀ w, kfF r t w = nF r t w := fun w => by
    show (t * (up r w - 1) + 1) * w = (t * up r w - t + 1) * w
    rw [Int.mul_sub, Int.mul_one]
  have : b = decide (nF r t d = v ∧ z = v) := by
    rw [Bool.eq_iff_iff, q, decide_eq_true_iff]
    constructor
    · rintro ⟨k', r', s', x', d', e1, e2, e3, e4, e5, _, _, _, _, _, _, _, _, _, e6, e7⟩
      cases e1; cases e2; cases e3; cases e4; cases e5
      have a1 : v ≤ nF r t d := (mn _ d0 dk).1
      have a2 := e7 e e0 ek
      rw [kf, kf] at a2
      have ev : v = nF r t e := ev
      have e8 : nF r t d = v := by omega
      rw [kf] at e6
      exact ⟨e8, e6.trans e8⟩
    · rintro ⟨e8, rfl⟩
      exact ⟨k, r, t, z, d, rfl, rfl, rfl, rfl, rfl, k1, k2, hr.1, hr.2, ht.1, ht.2, by omega, dl, dk, by rw [kf]; exact e8.symm, fun w w0 wk => by
        have a1 : z ≤ nF r t w := (mn w w0 wk).1
        rw [kf, kf, e8]
        exact a1⟩
  rw [g, this]
theorem acd_reach (h : TP tab) {k t v e : Int} (hl : RcL k t v e) (k1 : 1 ≤ k) (k2 : k ≤ 10 ^ 9) (ht : 1 ≤ t ∧ t ≤ 10 ^ 30) {d z : Int} (d0 : 0 < d) (dk : d ∣ k) : GG tab (n + 4) 109 [.d (.tup [.str "reach", .int k, .int t, .int z]), .d (.int d)] M = some (.ok (.d (.bl (decide (nR k t d = v ∧ z = 1 - v)))) M) := by
  obtain ⟨b, g, q⟩ := accepts_reach (n := n) (M := M) h (c := .int k) (s := .int t) (t := .int z) (p := .int d) kn_i kn_i kn_i kn_i
  obtain ⟨e0, ek, ev, mn⟩ := hl
  have dl := Int.le_of_dvd (show 0 < k by omega) dk
  have kf : ∀ w, kfR k t w = - nR k t w := fun w => by
    show up (k / w - 1) t * w = -(-up (k / w - 1) t * w)
    rw [Int.neg_mul, Int.neg_neg]
  have lf : ∀ w, -w * up (k / w - 1) t = nR k t w := fun w => by
    show -w * up (k / w - 1) t = -up (k / w - 1) t * w
    rw [Int.neg_mul, Int.neg_mul, Int.mul_comm]
  have : b = decide (nR k t d = v ∧ z = 1 - v) := by
    rw [Bool.eq_iff_iff, q, decide_eq_true_iff]
    constructor
    · rintro ⟨k', s', x', d', e1, e3, e4, e5, _, _, _, _, _, _, _, e6, e7⟩
      cases e1; cases e3; cases e4; cases e5
      have a1 := (mn _ d0 dk).1
      dsimp only at a1 ev
      rw [lf] at a1 ev
      have a2 := e7 e e0 ek
      rw [kf, kf] at a2
      rw [kf] at e6
      exact ⟨by omega, by omega⟩
    · rintro ⟨e8, rfl⟩
      exact ⟨k, t, 1 - v, d, rfl, rfl, rfl, rfl, k1, k2, ht.1, ht.2, by omega, dl, dk, by rw [kf]; omega, fun w w0 wk => by
        have a1 := (mn w w0 wk).1
        dsimp only at a1
        rw [lf] at a1
        rw [kf, kf]
        omega⟩
  rw [g, this]
theorem acd_apart (h : TP tab) {k t v e : Int} (hl : ApL k t v e) (k1 : 1 ≤ k) (k2 : k ≤ 10 ^ 9) (ht : 1 ≤ t ∧ t ≤ 10 ^ 30) {d z : Int} (d0 : 0 < d) (dk : d ∣ k) : GG tab (n + 4) 109 [.d (.tup [.str "apart", .int k, .int t, .int z]), .d (.int d)] M = some (.ok (.d (.bl (decide (nA k t d = v ∧ z = -v)))) M) := by
  obtain ⟨b, g, q⟩ := accepts_apart (n := n) (M := M) h (c := .int k) (s := .int t) (t := .int z) (p := .int d) kn_i kn_i kn_i kn_i
  obtain ⟨e0, ek, ev, mn⟩ := hl
  have dl := Int.le_of_dvd (show 0 < k by omega) dk
  have kf : ∀ w, kfA k t w = - nA k t w := fun w => by
    show ((w - 2) / (2 * t + 1) + 1) * (k / w) = -(-((w - 2) / (2 * t + 1) + 1) * (k / w))
    rw [Int.neg_mul, Int.neg_neg]
  have lf : ∀ w, -apC t w * (k / w) = nA k t w := fun w => rfl
  have : b = decide (nA k t d = v ∧ z = -v) := by
    rw [Bool.eq_iff_iff, q, decide_eq_true_iff]
    constructor
    · rintro ⟨k', s', x', d', e1, e3, e4, e5, _, _, _, _, _, _, _, e6, e7⟩
      cases e1; cases e3; cases e4; cases e5
      have a1 := (mn _ d0 dk).1
      dsimp only at a1 ev
      rw [lf] at a1 ev
      have a2 := e7 e e0 ek
      rw [kf, kf] at a2
      rw [kf] at e6
      exact ⟨by omega, by omega⟩
    · rintro ⟨e8, rfl⟩
      exact ⟨k, t, -v, d, rfl, rfl, rfl, rfl, k1, k2, ht.1, ht.2, by omega, dl, dk, by rw [kf]; omega, fun w w0 wk => by
        have a1 := (mn w w0 wk).1
        dsimp only at a1
        rw [lf] at a1
        rw [kf, kf]
        omega⟩
  rw [g, this]
theorem cutD_m162 {l : List PD} : cutD l none (some (-1)) = l.dropLast := by
  unfold cutD
  have e : HT.sIx l.length l.length (some (-1)) = l.length - 1 := by
    unfold HT.sIx
    simp
    omega
  have e0 : HT.sIx l.length 0 none = 0 := rfl
  rw [e, e0, List.drop_zero, Nat.sub_zero, List.dropLast_eq_take]
theorem made_right_i (h : TL tab) {S0 : List PD} {z b q : Int} {L : List Int} {f : Int → Int} (hS : ∀ d ∈ S0, IsIS d) (lS : S0.length ≤ 10) (m1 : 1 ≤ m) (m2 : m ≤ 10 ^ 9) (hL : IsDvs m L) (lL : L.length ≤ 4000) (mq : q ∈ L) (fq : f q = b) (hb : ∀ d ∈ L, b ≤ f d)
    (acc : ∀ (n : Nat) (M : MH) (d x : Int), d ∈ L → GG tab (n + 4) 109 [.d (.tup (S0 ++ [.int x])), .d (.int d)] M = some (.ok (.d (.bl (decide (f d = b ∧ x = z)))) M)) :
    GG tab (n + 6) 1011 [.d (.tup [.tup (S0 ++ [.int z]), .int q]), .d (.tup (S0 ++ [.int z])), .d (.lst (L.map .int)), .d (.lst ((L.map f).map .int)), .d (.int m)] M = some (.ok (.d (.bl true)) M) := by
  have a0 := acc n M q z mq
  rw [decide_eq_true ⟨fq, rfl⟩] at a0
  have ip := is_pair_i (n := n + 3) (M := M) h (ds := S0 ++ [.int z]) (p := .int q) (fun d hd => by
    rcases List.mem_append.mp hd with hd | hd
    · exact hS d hd
    · rw [List.mem_singleton] at hd
      exact hd ▸ IsIS.i) (by simp; omega) a0
  have dle : ∀ o ∈ L, 1 ≤ o ∧ o ≤ m := fun o ho => by
    obtain ⟨o0, ok⟩ := (hL.2 o).mp ho
    have := Int.le_of_dvd (show 0 < m by omega) ok
    omega
  obtain ⟨q1, q2⟩ := dle q mq
  have li := law_is_i (n := n + 4) (M := M) h (d := .int q) (a := 1) (b := m) kn_i
  rw [show numB (.int q) 1 m = true from numB_iff.mpr ⟨q, rfl, q1, q2⟩] at li
  obtain ⟨b', eb, mb, lb⟩ := minD1_map (ns := L.map f) (fun e => by
    have : L = [] := List.map_eq_nil_iff.mp e
    rw [this] at mq
    cases mq)
  have : b' = b := by
    obtain ⟨d, hd, e⟩ := List.mem_map.mp mb
    have := hb d hd
    have := lb (f q) (List.mem_map_of_mem mq)
    omega
  subst this
  obtain ⟨j, ej, gj⟩ := indexD_map mq
  have aj := atI_ok (l := (L.map f).map PD.int) (k := j) (v := .int (f q)) (by rw [List.getElem?_map, List.getElem?_map, gj]; rfl)
  rw [fq] at aj
  have g2 : ∀ x y : PD, atI [x, y] 1 = some y := fun _ _ => rfl
  have nb : neD (.int b') (.int b') = some (.bl false) := neD_self (p := .int b') rfl (by simp [PyData.depth])
  have isnf : isnotD (.bl false) (.bl false) = some (.bl false) := rfl
  refine eq_of_wpo ((wpo_GG h.t1011).mpr ⟨rfl, ?_⟩)
  simp only [b_law_law_made_right]
  simp only [List.map_map] at eb aj ⊢
  rw [wps_seq]
  simp [ip, truD, g2, li, notinD_int, mq]
  rw [andThen_nx, wps_seq]
  simp [eb]
  rw [andThen_nx, wps_seq]
  simp [g2, eIdx, ej, aj, nb]
  rw [andThen_nx, wps_seq]
  simp
  refine ifB_dec (fun big => ?_) (fun big => ?_)
  · simp
  · rw [andThen_nx, wps_seq, wps_for0]
    simp
    refine ⟨by simp [smallI]; split <;> omega, ?_⟩
    refine wps_forL (fun j ρ M' => ∃ (o6 o7 : Option VL), ρ = [some (.d (.tup [.tup (S0 ++ [.int z]), .int q])), some (.d (.tup (S0 ++ [.int z]))), some (.d (.lst (L.map .int))), some (.d (.lst (L.map (PD.int ∘ f)))), some (.d (.int m)), some (.d (.int b')), o6, o7, none] ∧ M' = M) ⟨_, _, rfl, rfl⟩ ?_ ?_
    · rintro j d ρ M' hd ⟨o6, o7, rfl, rfl⟩
      obtain ⟨rfl, hj⟩ := rangeL_get hd
      have hj : j < L.length := by
        split at hj <;> omega
      have gj := List.getElem?_eq_getElem hj
      generalize L[j] = d' at gj
      have md := List.mem_of_getElem? gj
      have a1 := atI_ok (l := L.map PD.int) (k := j) (v := .int d') (by rw [List.getElem?_map, gj]; rfl)
      have a2 := atI_ok (l := L.map (PD.int ∘ f)) (k := j) (v := .int (f d')) (by rw [List.getElem?_map, gj]; rfl)
      have a3 := acc (n + 1) M' d' z md
      rw [show decide (f d' = b' ∧ z = z) = decide (f d' = b') by simp] at a3
      have i1 : ∀ p : Bool, isiD "bool" (.bl p) = some (.bl true) := fun _ => rfl
      have nbb : ∀ p : Bool, neD (.bl p) (.bl p) = some (.bl false) := fun p => by cases p <;> rfl
      simp only [gNm_eq, wpD_some, Int.zero_add]
      rw [wps_seq]
      simp [a1, a3]
      rw [andThen_nx]
      simp [i1, truD, a2, nbb]
    · rintro ρ M' ⟨o6, o7, rfl, rfl⟩
      have cu : cutD (S0 ++ [PD.int z]) none (some (-1)) = S0 := by rw [cutD_m162, List.dropLast_concat]
      have al : atI (S0 ++ [PD.int z]) (-1) = some (.int z) := atI_last (by simp)
      have ap := acc (n + 1) M' q (z + 1) mq
      rw [decide_eq_false (fun z => by omega)] at ap
      have am := acc (n + 1) M' q (z + -1) mq
      rw [decide_eq_false (fun z => by omega)] at am
      have sz : SzOk (S0.length + 1) := szOk_of (by omega)
      rw [andThen_nx, wps_seq, wps_for0]
      simp [itD, szOk_of (show 2 ≤ 16000000 by omega)]
      refine wps_forL (fun i ρ M2 => ∃ (o6 o7 o8 : Option VL), ρ = [some (.d (.tup [.tup (S0 ++ [.int z]), .int q])), some (.d (.tup (S0 ++ [.int z]))), some (.d (.lst (L.map .int))), some (.d (.lst (L.map (PD.int ∘ f)))), some (.d (.int m)), some (.d (.int b')), o6, o7, o8] ∧ M2 = M') ⟨_, _, _, rfl, rfl⟩ ?_ ?_
      · rintro i d ρ M2 hd ⟨o6, o7, o8, rfl, rfl⟩
        have hd := List.mem_of_getElem? hd
        simp only [List.mem_cons, List.not_mem_nil, or_false] at hd
        rcases hd with rfl | rfl
        · simp [cu, al, am, isnf, sz, g2]
        · simp [cu, al, ap, isnf, sz, g2]
      · rintro ρ M2 ⟨o6, o7, o8, rfl, rfl⟩
        rw [andThen_nx]
        simp
theorem min_is {k v d : Int} {f : Int → Int} {L : List Int} (hl : IsLeast k f v d) (hL : IsDvs k L) : minD1 [.lst (L.map (PD.int ∘ f))] = some (.int v) ∧ d ∈ L ∧ f d = v ∧ ∀ e ∈ L, v ≤ f e := by
  obtain ⟨d0, dk, ev, mn⟩ := hl
  have md : d ∈ L := (hL.2 d).mpr ⟨d0, dk⟩
  have lo : ∀ e ∈ L, v ≤ f e := fun e he => by
    obtain ⟨e0, ek⟩ := (hL.2 e).mp he
    exact (mn e e0 ek).1
  obtain ⟨b', eb, mb, lb⟩ := minD1_map (ns := L.map f) (fun e => by
    have : L = [] := List.map_eq_nil_iff.mp e
    rw [this] at md
    cases md)
  rw [List.map_map] at eb
  refine ⟨?_, md, ev.symm, lo⟩
  have : b' = v := by
    obtain ⟨e, he, rfl⟩ := List.mem_map.mp mb
    have := lo e he
    have := lb (f d) (List.mem_map_of_mem md)
    omega
  rw [eb, this]
theorem right_i (h : TL tab) {w : Wst} {i : Int} (hw : WOk w 0) : ∃ w', GG tab (n + 7) 1012 [.r M.length, .d (.int i)] (M ++ [wl w]) = some (.ok (.d (.bl true)) (M ++ [wl w'])) := by
  have key : wpo (GG tab (n + 7) 1012 [.r M.length, .d (.int i)] (M ++ [wl w])) (fun v M' => ∃ w', v = .d (.bl true) ∧ M' = M ++ [wl w']) noE := by
    refine (wpo_GG h.t1012).mpr ⟨rfl, ?_⟩
    simp only [b_law_law_right]
    obtain ⟨w1, k, o1, k1, k2, e1⟩ := some_great_i (n := n + 4) (M := M) (l := []) (i := i) h hw (by omega)
    obtain ⟨w2, t, o2, t1, t2, e4⟩ := some_times_i (n := n + 4) (M := M) (l := []) (a := 1) h o1 (by omega) (by omega)
    obtain ⟨L, hL, e2⟩ := divs_i (n := n + 5) (M := M ++ [wl w2]) h k1 k2
    obtain ⟨l1, l2⟩ := dvs_len k1 k2 hL
    obtain ⟨w3, x, o3, x1, x2, e3⟩ := some_size_i (n := n + 4) (M := M) (l := []) h o2 (by omega) k1 k2 hL
    obtain ⟨w4, y, o5, y1, y2, e5⟩ := some_size_i (n := n + 4) (M := M) (l := []) h o3 (by omega) k1 k2 hL
    have dle : ∀ o ∈ L, 1 ≤ o ∧ o ≤ k := fun o ho => by
      obtain ⟨o0, ok⟩ := (hL.2 o).mp ho
      have := Int.le_of_dvd (show 0 < k by omega) ok
      omega
    have e6 := numbers_i (n := n + 4) (M := M ++ [wl w4]) h k1 k2 dle (by omega) ⟨x1, x2⟩ ⟨y1, y2⟩ ⟨t1, t2⟩
    obtain ⟨v1, d1, h1, c1⟩ := cert_least_i (n := n + 1) (M := M ++ [wl w4]) h.P (k := k) k1 k2 ⟨x1, x2⟩ ⟨y1, y2⟩
    obtain ⟨v2, d2, h2, c2⟩ := cert_fold_i (n := n + 1) (M := M ++ [wl w4]) h.P (k := k) k1 k2 ⟨x1, x2⟩ ⟨by omega, t2⟩
    obtain ⟨v3, d3, h3, c3⟩ := cert_reach_i (n := n + 1) (M := M ++ [wl w4]) h.P (k := k) (t := t) k1 k2 ⟨t1, t2⟩
    obtain ⟨v4, d4, h4, c4⟩ := cert_apart_i (n := n + 1) (M := M ++ [wl w4]) h.P (k := k) (t := t) k1 k2 ⟨t1, t2⟩
    have h3' : IsLeast k (nR k t) v3 d3 := by
      have : (fun d => -d * up (k / d - 1) t) = nR k t := funext fun d => by
        show -d * up (k / d - 1) t = -up (k / d - 1) t * d
        rw [Int.neg_mul, Int.neg_mul, Int.mul_comm]
      rw [← this]
      exact h3
    obtain ⟨b1, m1, f1, g1⟩ := min_is (f := nL x y) h1 hL
    obtain ⟨b2, m2, f2, g2⟩ := min_is (f := nF x t) h2 hL
    obtain ⟨b3, m3, f3, g3⟩ := min_is h3' hL
    obtain ⟨b4, m4, f4, g4⟩ := min_is (f := nA k t) h4 hL
    have r1 := made_right_i (n := n) (M := M ++ [wl w4]) h (S0 := [.str "least", .int k, .int x, .int y]) (z := v1) (b := v1) (q := d1) (f := nL x y) (by simp [IsIS]) (by simp) k1 k2 hL (by omega) m1 f1 g1 fun n M d z hd => acd_least h.P h1 k1 k2 ⟨x1, x2⟩ ⟨y1, y2⟩ ((hL.2 d).mp hd).1 ((hL.2 d).mp hd).2
    have r2 := made_right_i (n := n) (M := M ++ [wl w4]) h (S0 := [.str "fold", .int k, .int x, .int t]) (z := v2) (b := v2) (q := d2) (f := nF x t) (by simp [IsIS]) (by simp) k1 k2 hL (by omega) m2 f2 g2 fun n M d z hd => acd_fold h.P h2 k1 k2 ⟨x1, x2⟩ ⟨by omega, t2⟩ ((hL.2 d).mp hd).1 ((hL.2 d).mp hd).2
    have r3 := made_right_i (n := n) (M := M ++ [wl w4]) h (S0 := [.str "reach", .int k, .int t]) (z := 1 - v3) (b := v3) (q := d3) (f := nR k t) (by simp [IsIS]) (by simp) k1 k2 hL (by omega) m3 f3 g3 fun n M d z hd => acd_reach h.P h3 k1 k2 ⟨t1, t2⟩ ((hL.2 d).mp hd).1 ((hL.2 d).mp hd).2
    have r4 := made_right_i (n := n) (M := M ++ [wl w4]) h (S0 := [.str "apart", .int k, .int t]) (z := -v4) (b := v4) (q := d4) (f := nA k t) (by simp [IsIS]) (by simp) k1 k2 hL (by omega) m4 f4 g4 fun n M d z hd => acd_apart h.P h4 k1 k2 ⟨t1, t2⟩ ((hL.2 d).mp hd).1 ((hL.2 d).mp hd).2
    simp only [List.map_map, List.cons_append, List.nil_append] at e6 r1 r2 r3 r4
    generalize L.map (PD.int ∘ nL x y) = N1 at *
    generalize L.map (PD.int ∘ nF x t) = N2 at *
    generalize L.map (PD.int ∘ nR k t) = N3 at *
    generalize L.map (PD.int ∘ nA k t) = N4 at *
    have vd0 : valD wds [.lst N1, .lst N2, .lst N3, .lst N4] (.inr "least") = some (.lst N1) := rfl
    have vd1 : valD wds [.lst N1, .lst N2, .lst N3, .lst N4] (.inr "fold") = some (.lst N2) := rfl
    have vd2 : valD wds [.lst N1, .lst N2, .lst N3, .lst N4] (.inr "reach") = some (.lst N3) := rfl
    have vd3 : valD wds [.lst N1, .lst N2, .lst N3, .lst N4] (.inr "apart") = some (.lst N4) := rfl
    have sz : ∀ k, k ≤ 100 → SzOk k := fun k hk => szOk_of (by omega)
    rw [wps_seq]
    simp [e1, e4]
    rw [andThen_nx, wps_seq]
    simp [e2]
    rw [andThen_nx, wps_seq]
    simp [e3, e5, sz 2 (by omega)]
    rw [andThen_nx, wps_seq]
    simp [e6]
    rw [andThen_nx, wps_seq, wps_for0]
    simp
    refine ifB_dec (fun kb => ?_) (fun kb => ?_)
    all_goals
      refine ⟨by decide, ?_⟩
      refine wps_forL (fun j ρ M' => ∃ (o7 o8 : Option VL), ρ = [some (.r M.length), some (.d (.int i)), some (.d (.int k)), some (.d (.int t)), some (.d (.lst (L.map .int))), some (.d (.lst [.int x, .int y])), some (.d (.dct wds [.lst N1, .lst N2, .lst N3, .lst N4])), o7, o8] ∧ M' = M ++ [wl w4]) ⟨_, _, rfl, rfl⟩ ?_ ?_
    · rintro j d ρ M' hd ⟨o7, o8, rfl, rfl⟩
      simp only [gNm_eq, wpD_some]
      rw [wps_seq]
      simp [vd0, b1, sz 5 (by omega)]
      rw [andThen_nx, wps_seq]
      simp [c1, vd0, r1, truD]
      rw [andThen_nx, wps_seq]
      simp [vd1, b2, sz 5 (by omega)]
      rw [andThen_nx, wps_seq]
      simp [c2, vd1, r2, truD]
      rw [andThen_nx, wps_seq]
      simp [vd2, b3, sz 4 (by omega)]
      rw [andThen_nx, wps_seq]
      simp [c3, vd2, r3, truD]
      rw [andThen_nx, wps_seq]
      simp [vd3, b4, sz 4 (by omega)]
      rw [andThen_nx]
      simp [c4, vd3, r4, truD]
    · rintro ρ M' ⟨o7, o8, rfl, rfl⟩
      obtain ⟨v5, d5, h5, c5⟩ := cert_fold_i (n := n + 1) (M := M ++ [wl w4]) h.P (k := k) (r := y) (t := 0) k1 k2 ⟨y1, y2⟩ ⟨by omega, by omega⟩
      have hv : v5 = 1 := by
        obtain ⟨e0, ek, ev, mn⟩ := h5
        have a1 := (mn 1 (by omega) ⟨k, by omega⟩).1
        dsimp only at a1 ev
        rw [Int.zero_mul] at a1 ev
        omega
      subst hv
      have a5 := acd_fold (n := n + 1) (M := M ++ [wl w4]) h.P h5 k1 k2 ⟨y1, y2⟩ ⟨by omega, by omega⟩ h5.1 h5.2.1 (z := 1)
      rw [decide_eq_true ⟨h5.2.2.1.symm, rfl⟩] at a5
      have p5 := is_pair_i (n := n + 4) (M := M ++ [wl w4]) h (ds := [.str "fold", .int k, .int y, .int 0, .int 1]) (p := .int d5) (by simp [IsIS]) (by simp) a5
      have ne : neD (.tup [.tup [.str "least", .int k, .int x, .int y, .int v1], .int d1]) (.tup [.tup [.str "least", .int k, .int x, .int y, .int v1], .int d1]) = some (.bl false) := neD_self (p := .tuple [.tuple [.str "least", .int k, .int x, .int y, .int v1], .int d1]) rfl (by simp [PyData.depth, PyData.depthAll])
      rw [andThen_nx, wps_seq]
      simp
      refine ifB_dec (fun z => (by omega)) (fun _ => ?_)
      rw [andThen_nx, wps_seq]
      simp [c1, ne]
      rw [andThen_nx]
      simp [c5, p5, sz 5 (by omega)]
      exact ⟨w4, rfl⟩
    · rintro j d ρ M' hd ⟨o7, o8, rfl, rfl⟩
      simp only [gNm_eq, wpD_some]
      rw [wps_seq]
      simp [vd0, b1, sz 5 (by omega)]
      rw [andThen_nx, wps_seq]
      simp [c1, vd0, r1, truD]
      rw [andThen_nx, wps_seq]
      simp [vd1, b2, sz 5 (by omega)]
      rw [andThen_nx, wps_seq]
      simp [c2, vd1, r2, truD]
      rw [andThen_nx, wps_seq]
      simp [vd2, b3, sz 4 (by omega)]
      rw [andThen_nx, wps_seq]
      simp [c3, vd2, r3, truD]
      rw [andThen_nx, wps_seq]
      simp [vd3, b4, sz 4 (by omega)]
      rw [andThen_nx]
      simp [c4, vd3, r4, truD]
    · rintro ρ M' ⟨o7, o8, rfl, rfl⟩
      rw [andThen_nx, wps_seq]
      simp
      refine ifB_dec (fun _ => ?_) (fun z => (by omega))
      exact ⟨w4, rfl⟩
  obtain ⟨v, M', e, w', rfl, rfl⟩ := wpo_get key
  exact ⟨w', e⟩
theorem law_k62 (h : TL tab) (ns : List Int) : ∃ M', GG tab (n + 8) 1013 [.d (.scr (ns.map .int))] [] = some (.ok (.d (.bl true)) M') := by
  have key : wpo (GG tab (n + 8) 1013 [.d (.scr (ns.map .int))] []) (fun v M' => v = .d (.bl true)) noE := by
    refine (wpo_GG h.t1013).mpr ⟨rfl, ?_⟩
    simp only [b_law_law]
    rw [wps_seq, wps_for0]
    simp
    generalize hm : (if 2 < (if 3 < (ns.length : Int) then 3 else (ns.length : Int)) then (if 3 < (ns.length : Int) then 3 else (ns.length : Int)) else 2) = m
    have m3 : 0 ≤ m ∧ m ≤ 3 := by
      subst hm
      split <;> (try split) <;> omega
    refine ⟨by simp [smallI]; omega, ?_⟩
    obtain ⟨I, hI⟩ : ∃ I : Nat → EV → MH → Prop, I = fun (j : Nat) (ρ : EV) (M' : MH) => ∃ o : Option VL, ρ = [some (.d (.scr (ns.map .int))), o] := ⟨_, rfl⟩
    refine wps_forL I (by rw [hI]; exact ⟨_, rfl⟩) ?_ ?_
    · intro j d ρ M' hd hi
      rw [hI] at hi
      obtain ⟨o, rfl⟩ := hi
      obtain ⟨rfl, hj⟩ := rangeL_get hd
      obtain ⟨w, ow, e1⟩ := well_i (n := n + 6) (M := M') h (ns := ns) (i := j) (by omega)
      obtain ⟨w', e2⟩ := right_i (n := n) (M := M') (i := j) h ow
      simp [e1, e2, truD]
      rw [hI]
      exact ⟨_, rfl⟩
    · intro ρ M' hi
      rw [hI] at hi
      obtain ⟨o, rfl⟩ := hi
      rw [andThen_nx]
      simp
  obtain ⟨v, M', e, rfl⟩ := wpo_get key
  exact ⟨M', e⟩
end
end Mi
namespace Hd
open PySem PySem.Spec PyProof.Rows L2 Mi
def ids_0 : List (Nat × List Str) := [((1, ["self", "given"]) : Nat × List Str), ((7, ["self", "number"]) : Nat × List Str), ((9, ["value"]) : Nat × List Str), ((10, ["value", "least", "most"]) : Nat × List Str), ((12, ["clock", "most"]) : Nat × List Str), ((13, ["size", "clock"]) : Nat × List Str), ((14, ["times", "least"]) : Nat × List Str), ((18, ["number"]) : Nat × List Str), ((19, ["number", "divisor"]) : Nat × List Str), ((64, ["clock", "size", "other_size"]) : Nat × List Str), ((65, ["clock", "size", "times"]) : Nat × List Str), ((66, ["clock", "times"]) : Nat × List Str), ((67, ["clock", "times"]) : Nat × List Str), ((68, ["clock", "size", "other_size"]) : Nat × List Str), ((69, ["clock", "size", "times"]) : Nat × List Str), ((70, ["clock", "times"]) : Nat × List Str), ((124, ["clock", "size", "other_size"]) : Nat × List Str), ((125, ["clock", "size", "times"]) : Nat × List Str), ((126, ["clock", "times"]) : Nat × List Str), ((127, ["clock", "times"]) : Nat × List Str), ((107, ["value"]) : Nat × List Str), ((108, ["value", "least", "most"]) : Nat × List Str), ((109, ["claim", "certificate"]) : Nat × List Str), ((110, ["word", "parts"]) : Nat × List Str), ((111, ["number", "divisor"]) : Nat × List Str), ((112, ["word", "parts", "divisor"]) : Nat × List Str), ((113, ["word", "parts", "divisor"]) : Nat × List Str), ((114, ["text"]) : Nat × List Str), ((115, ["text"]) : Nat × List Str), ((116, ["clock", "one", "other"]) : Nat × List Str), ((117, ["clock", "hours", "hour"]) : Nat × List Str), ((118, ["row", "hours"]) : Nat × List Str), ((119, ["word", "parts", "certificate"]) : Nat × List Str), ((120, ["word", "parts", "certificate"]) : Nat × List Str), ((121, ["clock", "sets", "hour", "summand"]) : Nat × List Str), ((122, ["clock", "sets", "certificate"]) : Nat × List Str), ((123, ["clock", "sets", "certificate"]) : Nat × List Str), ((1000, ["script", "k"]) : Nat × List Str), ((1001, ["well", "many"]) : Nat × List Str), ((1002, ["value", "least", "most"]) : Nat × List Str)]
def ids_1 : List (Nat × List Str) := [((1003, ["number"]) : Nat × List Str), ((1004, ["well", "k"]) : Nat × List Str), ((1005, ["well", "many", "divisors"]) : Nat × List Str), ((1006, ["well", "least"]) : Nat × List Str), ((1007, ["told", "due"]) : Nat × List Str), ((1008, ["made", "due"]) : Nat × List Str), ((1009, ["number", "divisor"]) : Nat × List Str), ((1010, ["many", "sizes", "times", "divisors"]) : Nat × List Str), ((1011, ["made", "due", "divisors", "numbers", "many"]) : Nat × List Str), ((1012, ["well", "k"]) : Nat × List Str), ((1013, ["script"]) : Nat × List Str)]
def ids : List (Nat × List Str) := ids_0 ++ ids_1
def tabL : List (Nat × Body) := ptabL ++ [(1000, (false, 2, 6, b_law_law_well)), (1001, (true, 2, 4, b_law_law_draw)), (1002, (true, 3, 3, b_law_law_is)), (1003, (true, 1, 3, b_law_law_divisors)), (1004, (true, 2, 6, b_law_law_some_great)), (1005, (true, 3, 6, b_law_law_some_size)), (1006, (true, 2, 5, b_law_law_some_times)), (1007, (true, 2, 3, b_law_law_same)), (1008, (true, 2, 2, b_law_law_is_pair)), (1009, (true, 2, 2, b_law_law_up)), (1010, (true, 4, 9, b_law_law_numbers)), (1011, (true, 5, 9, b_law_law_made_right)), (1012, (true, 2, 9, b_law_law_right)), (1013, (true, 1, 2, b_law_law))]
def tab (k : Nat) : Option Body := tabL.lookup k
theorem tp : TP tab := ⟨rfl, rfl, rfl, rfl, rfl, rfl, rfl, rfl, rfl, rfl, rfl, rfl, rfl, rfl, rfl, rfl, rfl, rfl, rfl, rfl, rfl, rfl, rfl, rfl, rfl, rfl, rfl, rfl, rfl, rfl, rfl, rfl, rfl, rfl, rfl, rfl, rfl, rfl, rfl, rfl, rfl, rfl, rfl, rfl, rfl, rfl, rfl, rfl, rfl, rfl, rfl, rfl, rfl, rfl, rfl, rfl, rfl, rfl, rfl, rfl, rfl, rfl, rfl, rfl, rfl, rfl, rfl, rfl, rfl, rfl, rfl, rfl, rfl, rfl, rfl, rfl, rfl, rfl, rfl, rfl, rfl, rfl, rfl, rfl, rfl, rfl, rfl, rfl, rfl, rfl, rfl, rfl, rfl, rfl, rfl, rfl, rfl, rfl, rfl, rfl, rfl, rfl, rfl, rfl, rfl, rfl, rfl, rfl, rfl, rfl, rfl, rfl, rfl, rfl, rfl, rfl, rfl, rfl, rfl, rfl, rfl, rfl, rfl⟩
theorem tl : TL tab := ⟨tp, rfl, rfl, rfl, rfl, rfl, rfl, rfl, rfl, rfl, rfl, rfl, rfl, rfl, rfl⟩
theorem ktab_0 {w : World} {K : PySem.W.Frag} {mg : Str → Option Value} (E : Ev fa fn ts ex w K mg) : KTab K w (He.ga K "SIZES") [(("least" : Str), (5 : Int)), (("fold" : Str), (5 : Int)), (("reach" : Str), (4 : Int)), (("apart" : Str), (4 : Int)), (("sums" : Str), (4 : Int)), (("reached" : Str), (4 : Int)), (("never" : Str), (3 : Int)), (("within" : Str), (4 : Int)), (("unsolved" : Str), (3 : Int)), (("tiling" : Str), (3 : Int))] := ktab_of (tab_at E.t 0) E.xt
section
variable {P : Program} {w : World} {K : PySem.W.Frag} {mg : Str → Option Value} {base : Heap}
theorem bd_0 (E : Ev fa fn ts ex w K mg) : Binds K (fdK K d0.at_) ["self", "given"] [] := (E.df 0 (d := d0)).bindsN fun _ _ _ _ _ _ us hl => match us, hl with | [_, _], _ => rfl
theorem bd_1 (E : Ev fa fn ts ex w K mg) : Binds K (fdK K d1.at_) ["self", "number"] [] := (E.df 1 (d := d1)).bindsN fun _ _ _ _ _ _ us hl => match us, hl with | [_, _], _ => rfl
theorem sc_2 : FnScope ["value"] ["value"] (defScope (top 9)) := ⟨rfl, rfl, rfl, by decide +kernel, rfl, by decide +kernel, by decide +kernel⟩
theorem bd_2 (E : Ev fa fn ts ex w K mg) : Binds K (fdK K d2.at_) ["value"] [] := (E.df 2 (d := d2)).bindsN fun _ _ _ _ _ _ us hl => match us, hl with | [_], _ => rfl
theorem sc_3 : FnScope ["value", "least", "most"] ["value", "least", "most"] (defScope (top 11)) := ⟨rfl, rfl, rfl, by decide +kernel, rfl, by decide +kernel, by decide +kernel⟩
theorem bd_3 (E : Ev fa fn ts ex w K mg) : Binds K (fdK K d3.at_) ["value", "least", "most"] [] := (E.df 3 (d := d3)).bindsN fun _ _ _ _ _ _ us hl => match us, hl with | [_, _, _], _ => rfl
theorem sc_4 : FnScope ["clock", "most"] ["clock", "most"] (defScope (top 12)) := ⟨rfl, rfl, rfl, by decide +kernel, rfl, by decide +kernel, by decide +kernel⟩
theorem bd_4 (E : Ev fa fn ts ex w K mg) : Binds K (fdK K d4.at_) ["clock", "most"] [] := (E.df 4 (d := d4)).bindsN fun _ _ _ _ _ _ us hl => match us, hl with | [_, _], _ => rfl
theorem sc_5 : FnScope ["size", "clock"] ["size", "clock"] (defScope (top 13)) := ⟨rfl, rfl, rfl, by decide +kernel, rfl, by decide +kernel, by decide +kernel⟩
theorem bd_5 (E : Ev fa fn ts ex w K mg) : Binds K (fdK K d5.at_) ["size", "clock"] [] := (E.df 5 (d := d5)).bindsN fun _ _ _ _ _ _ us hl => match us, hl with | [_, _], _ => rfl
theorem sc_6 : FnScope ["times", "least"] ["times", "least"] (defScope (top 14)) := ⟨rfl, rfl, rfl, by decide +kernel, rfl, by decide +kernel, by decide +kernel⟩
theorem bd_6 (E : Ev fa fn ts ex w K mg) : Binds K (fdK K d6.at_) ["times", "least"] [] := (E.df 6 (d := d6)).bindsN fun _ _ _ _ _ _ us hl => match us, hl with | [_, _], _ => rfl
theorem sc_7 : FnScope ["number", "low", "high", "divisor"] ["number"] (defScope (top 15)) := ⟨rfl, rfl, rfl, by decide +kernel, rfl, by decide +kernel, by decide +kernel⟩
theorem bd_7 (E : Ev fa fn ts ex w K mg) : Binds K (fdK K d7.at_) ["number"] [] := (E.df 7 (d := d7)).bindsN fun _ _ _ _ _ _ us hl => match us, hl with | [_], _ => rfl
theorem sc_8 : FnScope ["number", "divisor"] ["number", "divisor"] (defScope (top 16)) := ⟨rfl, rfl, rfl, by decide +kernel, rfl, by decide +kernel, by decide +kernel⟩
theorem bd_8 (E : Ev fa fn ts ex w K mg) : Binds K (fdK K d8.at_) ["number", "divisor"] [] := (E.df 8 (d := d8)).bindsN fun _ _ _ _ _ _ us hl => match us, hl with | [_, _], _ => rfl
theorem sc_9 : FnScope ["clock", "size", "other_size", "numbers", "divisor"] ["clock", "size", "other_size"] (defScope (top 19)) := ⟨rfl, rfl, rfl, by decide +kernel, rfl, by decide +kernel, by decide +kernel⟩
theorem bd_9 (E : Ev fa fn ts ex w K mg) : Binds K (fdK K d9.at_) ["clock", "size", "other_size"] [] := (E.df 9 (d := d9)).bindsN fun _ _ _ _ _ _ us hl => match us, hl with | [_, _, _], _ => rfl
theorem sc_10 : FnScope ["clock", "size", "times", "numbers", "divisor"] ["clock", "size", "times"] (defScope (top 20)) := ⟨rfl, rfl, rfl, by decide +kernel, rfl, by decide +kernel, by decide +kernel⟩
theorem bd_10 (E : Ev fa fn ts ex w K mg) : Binds K (fdK K d10.at_) ["clock", "size", "times"] [] := (E.df 10 (d := d10)).bindsN fun _ _ _ _ _ _ us hl => match us, hl with | [_, _, _], _ => rfl
theorem sc_11 : FnScope ["clock", "times", "numbers", "divisor", "number"] ["clock", "times"] (defScope (top 21)) := ⟨rfl, rfl, rfl, by decide +kernel, rfl, by decide +kernel, by decide +kernel⟩
theorem bd_11 (E : Ev fa fn ts ex w K mg) : Binds K (fdK K d11.at_) ["clock", "times"] [] := (E.df 11 (d := d11)).bindsN fun _ _ _ _ _ _ us hl => match us, hl with | [_, _], _ => rfl
theorem sc_12 : FnScope ["clock", "times", "numbers", "divisor", "number"] ["clock", "times"] (defScope (top 22)) := ⟨rfl, rfl, rfl, by decide +kernel, rfl, by decide +kernel, by decide +kernel⟩
theorem bd_12 (E : Ev fa fn ts ex w K mg) : Binds K (fdK K d12.at_) ["clock", "times"] [] := (E.df 12 (d := d12)).bindsN fun _ _ _ _ _ _ us hl => match us, hl with | [_, _], _ => rfl
theorem sc_13 : FnScope ["clock", "size", "other_size"] ["clock", "size", "other_size"] (defScope (top 23)) := ⟨rfl, rfl, rfl, by decide +kernel, rfl, by decide +kernel, by decide +kernel⟩
theorem bd_13 (E : Ev fa fn ts ex w K mg) : Binds K (fdK K d13.at_) ["clock", "size", "other_size"] [] := (E.df 13 (d := d13)).bindsN fun _ _ _ _ _ _ us hl => match us, hl with | [_, _, _], _ => rfl
theorem sc_14 : FnScope ["clock", "size", "times"] ["clock", "size", "times"] (defScope (top 24)) := ⟨rfl, rfl, rfl, by decide +kernel, rfl, by decide +kernel, by decide +kernel⟩
theorem bd_14 (E : Ev fa fn ts ex w K mg) : Binds K (fdK K d14.at_) ["clock", "size", "times"] [] := (E.df 14 (d := d14)).bindsN fun _ _ _ _ _ _ us hl => match us, hl with | [_, _, _], _ => rfl
theorem sc_15 : FnScope ["clock", "times"] ["clock", "times"] (defScope (top 25)) := ⟨rfl, rfl, rfl, by decide +kernel, rfl, by decide +kernel, by decide +kernel⟩
theorem bd_15 (E : Ev fa fn ts ex w K mg) : Binds K (fdK K d15.at_) ["clock", "times"] [] := (E.df 15 (d := d15)).bindsN fun _ _ _ _ _ _ us hl => match us, hl with | [_, _], _ => rfl
theorem sc_16 : FnScope ["clock", "size", "other_size", "number", "divisor"] ["clock", "size", "other_size"] (defScope (top 27)) := ⟨rfl, rfl, rfl, by decide +kernel, rfl, by decide +kernel, by decide +kernel⟩
theorem bd_16 (E : Ev fa fn ts ex w K mg) : Binds K (fdK K d16.at_) ["clock", "size", "other_size"] [] := (E.df 16 (d := d16)).bindsN fun _ _ _ _ _ _ us hl => match us, hl with | [_, _, _], _ => rfl
theorem sc_17 : FnScope ["clock", "size", "times", "number", "divisor"] ["clock", "size", "times"] (defScope (top 28)) := ⟨rfl, rfl, rfl, by decide +kernel, rfl, by decide +kernel, by decide +kernel⟩
theorem bd_17 (E : Ev fa fn ts ex w K mg) : Binds K (fdK K d17.at_) ["clock", "size", "times"] [] := (E.df 17 (d := d17)).bindsN fun _ _ _ _ _ _ us hl => match us, hl with | [_, _, _], _ => rfl
theorem sc_18 : FnScope ["clock", "times", "number", "divisor"] ["clock", "times"] (defScope (top 29)) := ⟨rfl, rfl, rfl, by decide +kernel, rfl, by decide +kernel, by decide +kernel⟩
theorem bd_18 (E : Ev fa fn ts ex w K mg) : Binds K (fdK K d18.at_) ["clock", "times"] [] := (E.df 18 (d := d18)).bindsN fun _ _ _ _ _ _ us hl => match us, hl with | [_, _], _ => rfl
theorem sc_19 : FnScope ["clock", "times", "number", "divisor"] ["clock", "times"] (defScope (top 30)) := ⟨rfl, rfl, rfl, by decide +kernel, rfl, by decide +kernel, by decide +kernel⟩
theorem bd_19 (E : Ev fa fn ts ex w K mg) : Binds K (fdK K d19.at_) ["clock", "times"] [] := (E.df 19 (d := d19)).bindsN fun _ _ _ _ _ _ us hl => match us, hl with | [_, _], _ => rfl
theorem sc_20 : FnScope ["value"] ["value"] (defScope (top 34)) := ⟨rfl, rfl, rfl, by decide +kernel, rfl, by decide +kernel, by decide +kernel⟩
theorem bd_20 (E : Ev fa fn ts ex w K mg) : Binds K (fdK K d20.at_) ["value"] [] := (E.df 20 (d := d20)).bindsN fun _ _ _ _ _ _ us hl => match us, hl with | [_], _ => rfl
theorem sc_21 : FnScope ["value", "least", "most"] ["value", "least", "most"] (defScope (top 36)) := ⟨rfl, rfl, rfl, by decide +kernel, rfl, by decide +kernel, by decide +kernel⟩
theorem bd_21 (E : Ev fa fn ts ex w K mg) : Binds K (fdK K d21.at_) ["value", "least", "most"] [] := (E.df 21 (d := d21)).bindsN fun _ _ _ _ _ _ us hl => match us, hl with | [_, _, _], _ => rfl
theorem sc_22 : FnScope ["claim", "certificate", "word", "parts"] ["claim", "certificate"] (defScope (top 37)) := ⟨rfl, rfl, rfl, by decide +kernel, rfl, by decide +kernel, by decide +kernel⟩
theorem bd_22 (E : Ev fa fn ts ex w K mg) : Binds K (fdK K d22.at_) ["claim", "certificate"] [] := (E.df 22 (d := d22)).bindsN fun _ _ _ _ _ _ us hl => match us, hl with | [_, _], _ => rfl
theorem sc_23 : FnScope ["word", "parts", "clock"] ["word", "parts"] (defScope (top 38)) := ⟨rfl, rfl, rfl, by decide +kernel, rfl, by decide +kernel, by decide +kernel⟩
theorem bd_23 (E : Ev fa fn ts ex w K mg) : Binds K (fdK K d23.at_) ["word", "parts"] [] := (E.df 23 (d := d23)).bindsN fun _ _ _ _ _ _ us hl => match us, hl with | [_, _], _ => rfl
theorem sc_24 : FnScope ["number", "divisor"] ["number", "divisor"] (defScope (top 39)) := ⟨rfl, rfl, rfl, by decide +kernel, rfl, by decide +kernel, by decide +kernel⟩
theorem bd_24 (E : Ev fa fn ts ex w K mg) : Binds K (fdK K d24.at_) ["number", "divisor"] [] := (E.df 24 (d := d24)).bindsN fun _ _ _ _ _ _ us hl => match us, hl with | [_, _], _ => rfl
theorem sc_25 : FnScope ["word", "parts", "divisor", "many"] ["word", "parts", "divisor"] (defScope (top 41)) := ⟨rfl, rfl, rfl, by decide +kernel, rfl, by decide +kernel, by decide +kernel⟩
theorem bd_25 (E : Ev fa fn ts ex w K mg) : Binds K (fdK K d25.at_) ["word", "parts", "divisor"] [] := (E.df 25 (d := d25)).bindsN fun _ _ _ _ _ _ us hl => match us, hl with | [_, _, _], _ => rfl
theorem sc_26 : FnScope ["word", "parts", "divisor", "clock", "told", "here", "low", "other", "number"] ["word", "parts", "divisor"] (defScope (top 42)) := ⟨rfl, rfl, rfl, by decide +kernel, rfl, by decide +kernel, by decide +kernel⟩
theorem bd_26 (E : Ev fa fn ts ex w K mg) : Binds K (fdK K d26.at_) ["word", "parts", "divisor"] [] := (E.df 26 (d := d26)).bindsN fun _ _ _ _ _ _ us hl => match us, hl with | [_, _, _], _ => rfl
theorem sc_27 : FnScope ["text", "sign"] ["text"] (defScope (top 43)) := ⟨rfl, rfl, rfl, by decide +kernel, rfl, by decide +kernel, by decide +kernel⟩
theorem bd_27 (E : Ev fa fn ts ex w K mg) : Binds K (fdK K d27.at_) ["text"] [] := (E.df 27 (d := d27)).bindsN fun _ _ _ _ _ _ us hl => match us, hl with | [_], _ => rfl
theorem sc_28 : FnScope ["text", "head", "mark", "rest", "clock", "hours", "piece", "hour"] ["text"] (defScope (top 44)) := ⟨rfl, rfl, rfl, by decide +kernel, rfl, by decide +kernel, by decide +kernel⟩
theorem bd_28 (E : Ev fa fn ts ex w K mg) : Binds K (fdK K d28.at_) ["text"] [] := (E.df 28 (d := d28)).bindsN fun _ _ _ _ _ _ us hl => match us, hl with | [_], _ => rfl
theorem sc_29 : FnScope ["clock", "one", "other", "first", "second"] ["clock", "one", "other"] (defScope (top 45)) := ⟨rfl, rfl, rfl, by decide +kernel, rfl, by decide +kernel, by decide +kernel⟩
theorem bd_29 (E : Ev fa fn ts ex w K mg) : Binds K (fdK K d29.at_) ["clock", "one", "other"] [] := (E.df 29 (d := d29)).bindsN fun _ _ _ _ _ _ us hl => match us, hl with | [_, _, _], _ => rfl
theorem sc_30 : FnScope ["clock", "hours", "hour", "counts", "last", "after", "found"] ["clock", "hours", "hour"] (defScope (top 46)) := ⟨rfl, rfl, rfl, by decide +kernel, rfl, by decide +kernel, by decide +kernel⟩
theorem bd_30 (E : Ev fa fn ts ex w K mg) : Binds K (fdK K d30.at_) ["clock", "hours", "hour"] [] := (E.df 30 (d := d30)).bindsN fun _ _ _ _ _ _ us hl => match us, hl with | [_, _, _], _ => rfl
theorem sc_31 : FnScope ["row", "hours", "k", "hour"] ["row", "hours"] (defScope (top 47)) := ⟨rfl, rfl, rfl, by decide +kernel, rfl, by decide +kernel, by decide +kernel⟩
theorem bd_31 (E : Ev fa fn ts ex w K mg) : Binds K (fdK K d31.at_) ["row", "hours"] [] := (E.df 31 (d := d31)).bindsN fun _ _ _ _ _ _ us hl => match us, hl with | [_, _], _ => rfl
theorem sc_32 : FnScope ["word", "parts", "certificate", "found", "hour", "clock", "hours", "summand"] ["word", "parts", "certificate"] (defScope (top 48)) := ⟨rfl, rfl, rfl, by decide +kernel, rfl, by decide +kernel, by decide +kernel⟩
theorem bd_32 (E : Ev fa fn ts ex w K mg) : Binds K (fdK K d32.at_) ["word", "parts", "certificate"] [] := (E.df 32 (d := d32)).bindsN fun _ _ _ _ _ _ us hl => match us, hl with | [_, _, _], _ => rfl
theorem sc_33 : FnScope ["word", "parts", "certificate", "found", "part", "pair", "clock", "sets", "is_whole"] ["word", "parts", "certificate"] (defScope (top 49)) := ⟨rfl, rfl, rfl, by decide +kernel, rfl, by decide +kernel, by decide +kernel⟩
theorem bd_33 (E : Ev fa fn ts ex w K mg) : Binds K (fdK K d33.at_) ["word", "parts", "certificate"] [] := (E.df 33 (d := d33)).bindsN fun _ _ _ _ _ _ us hl => match us, hl with | [_, _, _], _ => rfl
theorem sc_34 : FnScope ["clock", "sets", "hour", "summand"] ["clock", "sets", "hour", "summand"] (defScope (top 50)) := ⟨rfl, rfl, rfl, by decide +kernel, rfl, by decide +kernel, by decide +kernel⟩
theorem bd_34 (E : Ev fa fn ts ex w K mg) : Binds K (fdK K d34.at_) ["clock", "sets", "hour", "summand"] [] := (E.df 34 (d := d34)).bindsN fun _ _ _ _ _ _ us hl => match us, hl with | [_, _, _, _], _ => rfl
theorem sc_35 : FnScope ["clock", "sets", "certificate", "found", "rest", "hour", "summand"] ["clock", "sets", "certificate"] (defScope (top 51)) := ⟨rfl, rfl, rfl, by decide +kernel, rfl, by decide +kernel, by decide +kernel⟩
theorem bd_35 (E : Ev fa fn ts ex w K mg) : Binds K (fdK K d35.at_) ["clock", "sets", "certificate"] [] := (E.df 35 (d := d35)).bindsN fun _ _ _ _ _ _ us hl => match us, hl with | [_, _, _], _ => rfl
theorem sc_36 : FnScope ["clock", "sets", "certificate", "hour", "row", "first", "summand"] ["clock", "sets", "certificate"] (defScope (top 52)) := ⟨rfl, rfl, rfl, by decide +kernel, rfl, by decide +kernel, by decide +kernel⟩
theorem bd_36 (E : Ev fa fn ts ex w K mg) : Binds K (fdK K d36.at_) ["clock", "sets", "certificate"] [] := (E.df 36 (d := d36)).bindsN fun _ _ _ _ _ _ us hl => match us, hl with | [_, _, _], _ => rfl
theorem sc_37 : FnScope ["script", "k", "cell", "mixed", "each", "more"] ["script", "k"] (defScope (top 54)) := ⟨rfl, rfl, rfl, by decide +kernel, rfl, by decide +kernel, by decide +kernel⟩
theorem bd_37 (E : Ev fa fn ts ex w K mg) : Binds K (fdK K d37.at_) ["script", "k"] [] := (E.df 37 (d := d37)).bindsN fun _ _ _ _ _ _ us hl => match us, hl with | [_, _], _ => rfl
theorem sc_38 : FnScope ["well", "many", "digit", "more"] ["well", "many"] (defScope (top 55)) := ⟨rfl, rfl, rfl, by decide +kernel, rfl, by decide +kernel, by decide +kernel⟩
theorem bd_38 (E : Ev fa fn ts ex w K mg) : Binds K (fdK K d38.at_) ["well", "many"] [] := (E.df 38 (d := d38)).bindsN fun _ _ _ _ _ _ us hl => match us, hl with | [_, _], _ => rfl
theorem sc_39 : FnScope ["value", "least", "most"] ["value", "least", "most"] (defScope (top 56)) := ⟨rfl, rfl, rfl, by decide +kernel, rfl, by decide +kernel, by decide +kernel⟩
theorem bd_39 (E : Ev fa fn ts ex w K mg) : Binds K (fdK K d39.at_) ["value", "least", "most"] [] := (E.df 39 (d := d39)).bindsN fun _ _ _ _ _ _ us hl => match us, hl with | [_, _, _], _ => rfl
theorem sc_40 : FnScope ["number", "found", "one"] ["number"] (defScope (top 57)) := ⟨rfl, rfl, rfl, by decide +kernel, rfl, by decide +kernel, by decide +kernel⟩
theorem bd_40 (E : Ev fa fn ts ex w K mg) : Binds K (fdK K d40.at_) ["number"] [] := (E.df 40 (d := d40)).bindsN fun _ _ _ _ _ _ us hl => match us, hl with | [_], _ => rfl
theorem sc_41 : FnScope ["well", "k", "form", "found", "turn", "prime"] ["well", "k"] (defScope (top 58)) := ⟨rfl, rfl, rfl, by decide +kernel, rfl, by decide +kernel, by decide +kernel⟩
theorem bd_41 (E : Ev fa fn ts ex w K mg) : Binds K (fdK K d41.at_) ["well", "k"] [] := (E.df 41 (d := d41)).bindsN fun _ _ _ _ _ _ us hl => match us, hl with | [_, _], _ => rfl
theorem sc_42 : FnScope ["well", "many", "divisors", "form", "step", "found"] ["well", "many", "divisors"] (defScope (top 59)) := ⟨rfl, rfl, rfl, by decide +kernel, rfl, by decide +kernel, by decide +kernel⟩
theorem bd_42 (E : Ev fa fn ts ex w K mg) : Binds K (fdK K d42.at_) ["well", "many", "divisors"] [] := (E.df 42 (d := d42)).bindsN fun _ _ _ _ _ _ us hl => match us, hl with | [_, _, _], _ => rfl
theorem sc_43 : FnScope ["well", "least", "form", "found", "turn"] ["well", "least"] (defScope (top 60)) := ⟨rfl, rfl, rfl, by decide +kernel, rfl, by decide +kernel, by decide +kernel⟩
theorem bd_43 (E : Ev fa fn ts ex w K mg) : Binds K (fdK K d43.at_) ["well", "least"] [] := (E.df 43 (d := d43)).bindsN fun _ _ _ _ _ _ us hl => match us, hl with | [_, _], _ => rfl
theorem sc_44 : FnScope ["told", "due", "k"] ["told", "due"] (defScope (top 61)) := ⟨rfl, rfl, rfl, by decide +kernel, rfl, by decide +kernel, by decide +kernel⟩
theorem bd_44 (E : Ev fa fn ts ex w K mg) : Binds K (fdK K d44.at_) ["told", "due"] [] := (E.df 44 (d := d44)).bindsN fun _ _ _ _ _ _ us hl => match us, hl with | [_, _], _ => rfl
theorem sc_45 : FnScope ["made", "due"] ["made", "due"] (defScope (top 62)) := ⟨rfl, rfl, rfl, by decide +kernel, rfl, by decide +kernel, by decide +kernel⟩
theorem bd_45 (E : Ev fa fn ts ex w K mg) : Binds K (fdK K d45.at_) ["made", "due"] [] := (E.df 45 (d := d45)).bindsN fun _ _ _ _ _ _ us hl => match us, hl with | [_, _], _ => rfl
theorem sc_46 : FnScope ["number", "divisor"] ["number", "divisor"] (defScope (top 63)) := ⟨rfl, rfl, rfl, by decide +kernel, rfl, by decide +kernel, by decide +kernel⟩
theorem bd_46 (E : Ev fa fn ts ex w K mg) : Binds K (fdK K d46.at_) ["number", "divisor"] [] := (E.df 46 (d := d46)).bindsN fun _ _ _ _ _ _ us hl => match us, hl with | [_, _], _ => rfl
theorem sc_47 : FnScope ["many", "sizes", "times", "divisors", "found", "divisor", "ups", "rest", "size"] ["many", "sizes", "times", "divisors"] (defScope (top 64)) := ⟨rfl, rfl, rfl, by decide +kernel, rfl, by decide +kernel, by decide +kernel⟩
theorem bd_47 (E : Ev fa fn ts ex w K mg) : Binds K (fdK K d47.at_) ["many", "sizes", "times", "divisors"] [] := (E.df 47 (d := d47)).bindsN fun _ _ _ _ _ _ us hl => match us, hl with | [_, _, _, _], _ => rfl
theorem sc_48 : FnScope ["made", "due", "divisors", "numbers", "many", "best", "k", "told", "step"] ["made", "due", "divisors", "numbers", "many"] (defScope (top 65)) := ⟨rfl, rfl, rfl, by decide +kernel, rfl, by decide +kernel, by decide +kernel⟩
theorem bd_48 (E : Ev fa fn ts ex w K mg) : Binds K (fdK K d48.at_) ["made", "due", "divisors", "numbers", "many"] [] := (E.df 48 (d := d48)).bindsN fun _ _ _ _ _ _ us hl => match us, hl with | [_, _, _, _, _], _ => rfl
theorem sc_49 : FnScope ["well", "k", "many", "times", "divisors", "sizes", "numbers", "turn", "due"] ["well", "k"] (defScope (top 66)) := ⟨rfl, rfl, rfl, by decide +kernel, rfl, by decide +kernel, by decide +kernel⟩
theorem bd_49 (E : Ev fa fn ts ex w K mg) : Binds K (fdK K d49.at_) ["well", "k"] [] := (E.df 49 (d := d49)).bindsN fun _ _ _ _ _ _ us hl => match us, hl with | [_, _], _ => rfl
theorem sc_50 : FnScope ["script", "k"] ["script"] (defScope (top 67)) := ⟨rfl, rfl, rfl, by decide +kernel, rfl, by decide +kernel, by decide +kernel⟩
theorem sc_0 : FnScope ["self", "given"] ["self", "given"] (defScope (inClass (top 6) 0)) := ⟨rfl, rfl, rfl, by decide +kernel, rfl, by decide +kernel, by decide +kernel⟩
theorem sc_1 : FnScope ["self", "number"] ["self", "number"] (defScope (inClass (top 7) 0)) := ⟨rfl, rfl, rfl, by decide +kernel, rfl, by decide +kernel, by decide +kernel⟩
theorem okx_0 (E : Ev fa fn ts ex w K mg) : FnOk P w K mg base (L2N.CX P w) 1 (fA K d0.at_) (fdK K d0.at_) ["self", "given"] (spXi ((TT K).ca 3) "given") :=
  fn_xi (k := 0) (cf_exf (E.cf 0)).g (cf_exf (E.cf 0)).no (E.df 0 (d := d0)) sc_0 rfl rfl fun cdv A outer s H X' => pss_one (ps_ostG (pe_var (i := 0) rfl (Or.inl rfl)) (pe_var (i := 1) rfl (Or.inl rfl)))
theorem okx_1 (E : Ev fa fn ts ex w K mg) : FnOk P w K mg base (L2N.CX P w) 1 (fA K d1.at_) (fdK K d1.at_) ["self", "number"] (spXi ((TT K).ca 9) "number") :=
  fn_xi (k := 0) (cf_exf (E.cf 1)).g (cf_exf (E.cf 1)).no (E.df 1 (d := d1)) sc_1 rfl rfl fun cdv A outer s H X' => pss_one (ps_ostG (pe_var (i := 0) rfl (Or.inl rfl)) (pe_var (i := 1) rfl (Or.inl rfl)))
theorem ok_2 (E : Ev fa fn ts ex w K mg) {n : Nat} (IH : Lev P w K mg base (TT K) fn ids tab n) : FnOk P w K mg base (L2N.CX P w) (8 * (n + 1)) (fA K d2.at_) (fdK K d2.at_) ["value"] (fnD K (TT K) (GG tab (n + 1) 9)) := by
  have nd := sc_2.nd
  rw [GG_succ (show tab 9 = some (true, 1, 1, b_values_is_integer) from rfl)]
  refine fn_ok (k := 8 * n + 7) (N := ["value"]) (ps := ["value"]) (b := b_values_is_integer (GG tab n)) (fz := true) (E.df 2 (d := d2)) sc_2 fun cdv A outer s H X' hr5 => ?_
  have hr4 := hr5.mono (j := 8 * n + 4) (by omega)
  have hr2 := hr5.mono (j := 8 * n + 2) (by omega)
  have hr1 := hr5.mono (j := 8 * n + 1) (by omega)
  have hr := hr5.mono (j := 8 * n) (by omega)
  exact (ds_one (ds_ret (de_and (de_isi kit_int (de_var (i := 0)) (E.free 0) (E.free 1) rfl) (de_one (de_not (de_isi kit_bool (de_var (i := 0)) (E.free 0) (E.free 2) rfl))))))
theorem ok_3 (E : Ev fa fn ts ex w K mg) {n : Nat} (IH : Lev P w K mg base (TT K) fn ids tab n) : FnOk P w K mg base (L2N.CX P w) (8 * (n + 1)) (fA K d3.at_) (fdK K d3.at_) ["value", "least", "most"] (fnD K (TT K) (GG tab (n + 1) 10)) := by
  have nd := sc_3.nd
  rw [GG_succ (show tab 10 = some (true, 3, 3, b_values_is_between) from rfl)]
  refine fn_ok (k := 8 * n + 7) (N := ["value", "least", "most"]) (ps := ["value", "least", "most"]) (b := b_values_is_between (GG tab n)) (fz := true) (E.df 3 (d := d3)) sc_3 fun cdv A outer s H X' hr5 => ?_
  have hr4 := hr5.mono (j := 8 * n + 4) (by omega)
  have hr2 := hr5.mono (j := 8 * n + 2) (by omega)
  have hr1 := hr5.mono (j := 8 * n + 1) (by omega)
  have hr := hr5.mono (j := 8 * n) (by omega)
  exact (ds_one (ds_ret (de_and (de_call (k := 8 * n) (IH 2 d2 (9, ["value"]) rfl rfl) hr (E.glo 3) (E.df 2 (d := d2)).kp (bd_2 E) (L2N.takes_of rfl rfl rfl rfl) (da_cons (de_var (i := 0)) da_nil)) (de_one (de_chain dop_le dop_le (de_var (i := 1)) (de_var (i := 0)) (de_var (i := 2)))))))
theorem ok_4 (E : Ev fa fn ts ex w K mg) {n : Nat} (IH : Lev P w K mg base (TT K) fn ids tab n) : FnOk P w K mg base (L2N.CX P w) (8 * (n + 1)) (fA K d4.at_) (fdK K d4.at_) ["clock", "most"] (fnD K (TT K) (GG tab (n + 1) 12)) := by
  have nd := sc_4.nd
  rw [GG_succ (show tab 12 = some (true, 2, 2, b_values_check_clock) from rfl)]
  refine fn_ok (k := 8 * n + 7) (N := ["clock", "most"]) (ps := ["clock", "most"]) (b := b_values_check_clock (GG tab n)) (fz := true) (E.df 4 (d := d4)) sc_4 fun cdv A outer s H X' hr5 => ?_
  have hr4 := hr5.mono (j := 8 * n + 4) (by omega)
  have hr2 := hr5.mono (j := 8 * n + 2) (by omega)
  have hr1 := hr5.mono (j := 8 * n + 1) (by omega)
  have hr := hr5.mono (j := 8 * n) (by omega)
  exact (ds_cons (ds_if (PW.pt (dw_or (dt_not (dt_tru (de_call (k := 8 * n) (IH 2 d2 (9, ["value"]) rfl rfl) hr (E.glo 3) (E.df 2 (d := d2)).kp (bd_2 E) (L2N.takes_of rfl rfl rfl rfl) (da_cons (de_var (i := 0)) da_nil)))) (dw_or1 (dt_cmp dop_lt (de_var (i := 0)) de_int)))) (ds_one (ds_raise (T := TT K) (c := 3) rfl (L2N.takes_of rfl rfl rfl rfl) rfl (cf_exf (E.cf 0)) (okx_0 E) (hr5.mono (j := 2) (by omega)) (bd_0 E) (E.glo 4) (de_var (i := 0)))) ds_nil)
    (ds_one (ds_if (dt_cmp dop_gt (de_var (i := 0)) (de_var (i := 1))) (ds_one (ds_raise (T := TT K) (c := 9) rfl (L2N.takes_of rfl rfl rfl rfl) rfl (cf_exf (E.cf 1)) (okx_1 E) (hr5.mono (j := 2) (by omega)) (bd_1 E) (E.glo 5) (de_var (i := 0)))) ds_nil)))
theorem ok_5 (E : Ev fa fn ts ex w K mg) {n : Nat} (IH : Lev P w K mg base (TT K) fn ids tab n) : FnOk P w K mg base (L2N.CX P w) (8 * (n + 1)) (fA K d5.at_) (fdK K d5.at_) ["size", "clock"] (fnD K (TT K) (GG tab (n + 1) 13)) := by
  have nd := sc_5.nd
  rw [GG_succ (show tab 13 = some (true, 2, 2, b_values_check_size) from rfl)]
  refine fn_ok (k := 8 * n + 7) (N := ["size", "clock"]) (ps := ["size", "clock"]) (b := b_values_check_size (GG tab n)) (fz := true) (E.df 5 (d := d5)) sc_5 fun cdv A outer s H X' hr5 => ?_
  have hr4 := hr5.mono (j := 8 * n + 4) (by omega)
  have hr2 := hr5.mono (j := 8 * n + 2) (by omega)
  have hr1 := hr5.mono (j := 8 * n + 1) (by omega)
  have hr := hr5.mono (j := 8 * n) (by omega)
  exact (ds_one (ds_if (dt_not (dt_tru (de_call (k := 8 * n) (IH 3 d3 (10, ["value", "least", "most"]) rfl rfl) hr (E.glo 6) (E.df 3 (d := d3)).kp (bd_3 E) (L2N.takes_of rfl rfl rfl rfl) (da_cons (de_var (i := 0)) (da_cons de_int (da_cons (de_var (i := 1)) da_nil)))))) (ds_one (ds_raise (T := TT K) (c := 3) rfl (L2N.takes_of rfl rfl rfl rfl) rfl (cf_exf (E.cf 0)) (okx_0 E) (hr5.mono (j := 2) (by omega)) (bd_0 E) (E.glo 4) (de_var (i := 0)))) ds_nil))
theorem ok_6 (E : Ev fa fn ts ex w K mg) {n : Nat} (IH : Lev P w K mg base (TT K) fn ids tab n) : FnOk P w K mg base (L2N.CX P w) (8 * (n + 1)) (fA K d6.at_) (fdK K d6.at_) ["times", "least"] (fnD K (TT K) (GG tab (n + 1) 14)) := by
  have nd := sc_6.nd
  rw [GG_succ (show tab 14 = some (true, 2, 2, b_values_check_times) from rfl)]
  refine fn_ok (k := 8 * n + 7) (N := ["times", "least"]) (ps := ["times", "least"]) (b := b_values_check_times (GG tab n)) (fz := true) (E.df 6 (d := d6)) sc_6 fun cdv A outer s H X' hr5 => ?_
  have hr4 := hr5.mono (j := 8 * n + 4) (by omega)
  have hr2 := hr5.mono (j := 8 * n + 2) (by omega)
  have hr1 := hr5.mono (j := 8 * n + 1) (by omega)
  have hr := hr5.mono (j := 8 * n) (by omega)
  exact (ds_cons (ds_if (PW.pt (dw_or (dt_not (dt_tru (de_call (k := 8 * n) (IH 2 d2 (9, ["value"]) rfl rfl) hr (E.glo 3) (E.df 2 (d := d2)).kp (bd_2 E) (L2N.takes_of rfl rfl rfl rfl) (da_cons (de_var (i := 0)) da_nil)))) (dw_or1 (dt_cmp dop_lt (de_var (i := 0)) (de_var (i := 1)))))) (ds_one (ds_raise (T := TT K) (c := 3) rfl (L2N.takes_of rfl rfl rfl rfl) rfl (cf_exf (E.cf 0)) (okx_0 E) (hr5.mono (j := 2) (by omega)) (bd_0 E) (E.glo 4) (de_var (i := 0)))) ds_nil)
    (ds_one (ds_if (dt_cmp dop_gt (de_var (i := 0)) (de_gint (E.int 7))) (ds_one (ds_raise (T := TT K) (c := 9) rfl (L2N.takes_of rfl rfl rfl rfl) rfl (cf_exf (E.cf 1)) (okx_1 E) (hr5.mono (j := 2) (by omega)) (bd_1 E) (E.glo 5) (de_var (i := 0)))) ds_nil)))
theorem ok_7 (E : Ev fa fn ts ex w K mg) {n : Nat} (IH : Lev P w K mg base (TT K) fn ids tab n) : FnOk P w K mg base (L2N.CX P w) (8 * (n + 1)) (fA K d7.at_) (fdK K d7.at_) ["number"] (fnD K (TT K) (GG tab (n + 1) 18)) := by
  have nd := sc_7.nd
  rw [GG_succ (show tab 18 = some (true, 1, 4, b_values_divisors_of) from rfl)]
  refine fn_ok (k := 8 * n + 7) (N := ["number", "low", "high", "divisor"]) (ps := ["number"]) (b := b_values_divisors_of (GG tab n)) (fz := true) (E.df 7 (d := d7)) sc_7 fun cdv A outer s H X' hr5 => ?_
  have hr4 := hr5.mono (j := 8 * n + 4) (by omega)
  have hr2 := hr5.mono (j := 8 * n + 2) (by omega)
  have hr1 := hr5.mono (j := 8 * n + 1) (by omega)
  have hr := hr5.mono (j := 8 * n) (by omega)
  exact (ds_cons (ds_par3 (i := 1) (j := 2) (l := 3) (ps_par3 rfl nd rfl rfl rfl (by decide) (by decide) (by decide) (by first | rfl | kernel_rfl) (by first | rfl | kernel_rfl) (by first | rfl | kernel_rfl) (da_cons (de_mut da_nil) (da_cons (de_mut da_nil) (da_cons de_int da_nil))) (by first | rfl | kernel_rfl)))
    (ds_cons (ds_while (passes_of rfl) (dt_cmp dop_le (de_bin dop_mul (de_var (i := 3)) (de_var (i := 3))) (de_var (i := 0))) (ds_cons (ds_if (dt_cmp (dop_eq hr.units) (de_bin dop_mod (de_var (i := 0)) (de_var (i := 3))) de_int) (ds_cons (ds_exp (de_apnd (de_var (i := 1)) (de_var (i := 3))))
    (ds_one (ds_if (dt_cmp dop_lt (de_bin dop_mul (de_var (i := 3)) (de_var (i := 3))) (de_var (i := 0))) (ds_one (ds_exp (de_apnd (de_var (i := 2)) (de_bin dop_fdiv (de_var (i := 0)) (de_var (i := 3)))))) ds_nil))) ds_nil)
    (ds_one (ds_set (i := 3) (de_bin dop_add (de_var (i := 3)) de_int) nd))))
    (ds_one (ds_ret (de_bin dop_add (de_var (i := 1)) (de_rev (de_var (i := 2))))))))
theorem ok_8 (E : Ev fa fn ts ex w K mg) {n : Nat} (IH : Lev P w K mg base (TT K) fn ids tab n) : FnOk P w K mg base (L2N.CX P w) (8 * (n + 1)) (fA K d8.at_) (fdK K d8.at_) ["number", "divisor"] (fnD K (TT K) (GG tab (n + 1) 19)) := by
  have nd := sc_8.nd
  rw [GG_succ (show tab 19 = some (true, 2, 2, b_values_divided_up) from rfl)]
  refine fn_ok (k := 8 * n + 7) (N := ["number", "divisor"]) (ps := ["number", "divisor"]) (b := b_values_divided_up (GG tab n)) (fz := true) (E.df 8 (d := d8)) sc_8 fun cdv A outer s H X' hr5 => ?_
  have hr4 := hr5.mono (j := 8 * n + 4) (by omega)
  have hr2 := hr5.mono (j := 8 * n + 2) (by omega)
  have hr1 := hr5.mono (j := 8 * n + 1) (by omega)
  have hr := hr5.mono (j := 8 * n) (by omega)
  exact (ds_one (ds_ret (de_un dun_neg (de_bin dop_fdiv (de_un dun_neg (de_var (i := 0))) (de_var (i := 1))))))
theorem ok_9 (E : Ev fa fn ts ex w K mg) {n : Nat} (IH : Lev P w K mg base (TT K) fn ids tab n) : FnOk P w K mg base (L2N.CX P w) (8 * (n + 1)) (fA K d9.at_) (fdK K d9.at_) ["clock", "size", "other_size"] (fnD K (TT K) (GG tab (n + 1) 64)) := by
  have nd := sc_9.nd
  rw [GG_succ (show tab 64 = some (true, 3, 5, b_clocks_least_divisor) from rfl)]
  refine fn_ok (k := 8 * n + 7) (N := ["clock", "size", "other_size", "numbers", "divisor"]) (ps := ["clock", "size", "other_size"]) (b := b_clocks_least_divisor (GG tab n)) (fz := true) (E.df 9 (d := d9)) sc_9 fun cdv A outer s H X' hr5 => ?_
  have hr4 := hr5.mono (j := 8 * n + 4) (by omega)
  have hr2 := hr5.mono (j := 8 * n + 2) (by omega)
  have hr1 := hr5.mono (j := 8 * n + 1) (by omega)
  have hr := hr5.mono (j := 8 * n) (by omega)
  exact (ds_cons (ds_set (i := 3) (de_mut da_nil) nd)
    (ds_cons (ds_for (passes_of rfl) rfl (di_seq (de_call (k := 8 * n) (IH 7 d7 (18, ["number"]) rfl rfl) hr (E.glo 8) (E.df 7 (d := d7)).kp (bd_7 E) (L2N.takes_of rfl rfl rfl rfl) (da_cons (de_var (i := 0)) da_nil))) (dg_name (i := 4) nd) (ds_one (ds_exp (de_apnd (de_var (i := 3)) (de_tup (da_cons (de_bin dop_mul (de_bin dop_sub (de_bin dop_add (de_call (k := 8 * n) (IH 8 d8 (19, ["number", "divisor"]) rfl rfl) hr (E.glo 9) (E.df 8 (d := d8)).kp (bd_8 E) (L2N.takes_of rfl rfl rfl rfl) (da_cons (de_var (i := 1)) (da_cons (de_var (i := 4)) da_nil))) (de_call (k := 8 * n) (IH 8 d8 (19, ["number", "divisor"]) rfl rfl) hr (E.glo 9) (E.df 8 (d := d8)).kp (bd_8 E) (L2N.takes_of rfl rfl rfl rfl) (da_cons (de_var (i := 2)) (da_cons (de_var (i := 4)) da_nil)))) de_int) (de_var (i := 4))) (da_cons (de_var (i := 4)) da_nil)))))))
    (ds_one (ds_ret (de_bi (dc_minPr rfl hr.units) (E.free 10) rfl (da_cons (de_var (i := 3)) da_nil))))))
theorem ok_10 (E : Ev fa fn ts ex w K mg) {n : Nat} (IH : Lev P w K mg base (TT K) fn ids tab n) : FnOk P w K mg base (L2N.CX P w) (8 * (n + 1)) (fA K d10.at_) (fdK K d10.at_) ["clock", "size", "times"] (fnD K (TT K) (GG tab (n + 1) 65)) := by
  have nd := sc_10.nd
  rw [GG_succ (show tab 65 = some (true, 3, 5, b_clocks_fold_divisor) from rfl)]
  refine fn_ok (k := 8 * n + 7) (N := ["clock", "size", "times", "numbers", "divisor"]) (ps := ["clock", "size", "times"]) (b := b_clocks_fold_divisor (GG tab n)) (fz := true) (E.df 10 (d := d10)) sc_10 fun cdv A outer s H X' hr5 => ?_
  have hr4 := hr5.mono (j := 8 * n + 4) (by omega)
  have hr2 := hr5.mono (j := 8 * n + 2) (by omega)
  have hr1 := hr5.mono (j := 8 * n + 1) (by omega)
  have hr := hr5.mono (j := 8 * n) (by omega)
  exact (ds_cons (ds_set (i := 3) (de_mut da_nil) nd)
    (ds_cons (ds_for (passes_of rfl) rfl (di_seq (de_call (k := 8 * n) (IH 7 d7 (18, ["number"]) rfl rfl) hr (E.glo 8) (E.df 7 (d := d7)).kp (bd_7 E) (L2N.takes_of rfl rfl rfl rfl) (da_cons (de_var (i := 0)) da_nil))) (dg_name (i := 4) nd) (ds_one (ds_exp (de_apnd (de_var (i := 3)) (de_tup (da_cons (de_bin dop_mul (de_bin dop_add (de_bin dop_sub (de_bin dop_mul (de_var (i := 2)) (de_call (k := 8 * n) (IH 8 d8 (19, ["number", "divisor"]) rfl rfl) hr (E.glo 9) (E.df 8 (d := d8)).kp (bd_8 E) (L2N.takes_of rfl rfl rfl rfl) (da_cons (de_var (i := 1)) (da_cons (de_var (i := 4)) da_nil)))) (de_var (i := 2))) de_int) (de_var (i := 4))) (da_cons (de_var (i := 4)) da_nil)))))))
    (ds_one (ds_ret (de_bi (dc_minPr rfl hr.units) (E.free 10) rfl (da_cons (de_var (i := 3)) da_nil))))))
theorem ok_11 (E : Ev fa fn ts ex w K mg) {n : Nat} (IH : Lev P w K mg base (TT K) fn ids tab n) : FnOk P w K mg base (L2N.CX P w) (8 * (n + 1)) (fA K d11.at_) (fdK K d11.at_) ["clock", "times"] (fnD K (TT K) (GG tab (n + 1) 66)) := by
  have nd := sc_11.nd
  rw [GG_succ (show tab 66 = some (true, 2, 5, b_clocks_reach_divisor) from rfl)]
  refine fn_ok (k := 8 * n + 7) (N := ["clock", "times", "numbers", "divisor", "number"]) (ps := ["clock", "times"]) (b := b_clocks_reach_divisor (GG tab n)) (fz := true) (E.df 11 (d := d11)) sc_11 fun cdv A outer s H X' hr5 => ?_
  have hr4 := hr5.mono (j := 8 * n + 4) (by omega)
  have hr2 := hr5.mono (j := 8 * n + 2) (by omega)
  have hr1 := hr5.mono (j := 8 * n + 1) (by omega)
  have hr := hr5.mono (j := 8 * n) (by omega)
  exact (ds_cons (ds_set (i := 2) (de_mut da_nil) nd)
    (ds_cons (ds_for (passes_of rfl) rfl (di_seq (de_call (k := 8 * n) (IH 7 d7 (18, ["number"]) rfl rfl) hr (E.glo 8) (E.df 7 (d := d7)).kp (bd_7 E) (L2N.takes_of rfl rfl rfl rfl) (da_cons (de_var (i := 0)) da_nil))) (dg_name (i := 3) nd) (ds_one (ds_exp (de_apnd (de_var (i := 2)) (de_tup (da_cons (de_bin dop_mul (de_un dun_neg (de_var (i := 3))) (de_call (k := 8 * n) (IH 8 d8 (19, ["number", "divisor"]) rfl rfl) hr (E.glo 9) (E.df 8 (d := d8)).kp (bd_8 E) (L2N.takes_of rfl rfl rfl rfl) (da_cons (de_bin dop_sub (de_bin dop_fdiv (de_var (i := 0)) (de_var (i := 3))) de_int) (da_cons (de_var (i := 1)) da_nil)))) (da_cons (de_var (i := 3)) da_nil)))))))
    (ds_cons (ds_asg (de_bi (dc_minPr rfl hr.units) (E.free 10) rfl (da_cons (de_var (i := 2)) da_nil)) (dg_tup rfl (dgs_cons (dg_name (i := 4) nd) (dgs_cons (dg_name (i := 3) nd) dgs_nil)) (lenS (lenS len0))))
    (ds_one (ds_ret (de_tup (da_cons (de_bin dop_sub de_int (de_var (i := 4))) (da_cons (de_var (i := 3)) da_nil))))))))
theorem ok_12 (E : Ev fa fn ts ex w K mg) {n : Nat} (IH : Lev P w K mg base (TT K) fn ids tab n) : FnOk P w K mg base (L2N.CX P w) (8 * (n + 1)) (fA K d12.at_) (fdK K d12.at_) ["clock", "times"] (fnD K (TT K) (GG tab (n + 1) 67)) := by
  have nd := sc_12.nd
  rw [GG_succ (show tab 67 = some (true, 2, 5, b_clocks_apart_divisor) from rfl)]
  refine fn_ok (k := 8 * n + 7) (N := ["clock", "times", "numbers", "divisor", "number"]) (ps := ["clock", "times"]) (b := b_clocks_apart_divisor (GG tab n)) (fz := true) (E.df 12 (d := d12)) sc_12 fun cdv A outer s H X' hr5 => ?_
  have hr4 := hr5.mono (j := 8 * n + 4) (by omega)
  have hr2 := hr5.mono (j := 8 * n + 2) (by omega)
  have hr1 := hr5.mono (j := 8 * n + 1) (by omega)
  have hr := hr5.mono (j := 8 * n) (by omega)
  exact (ds_cons (ds_set (i := 2) (de_mut da_nil) nd)
    (ds_cons (ds_for (passes_of rfl) rfl (di_seq (de_call (k := 8 * n) (IH 7 d7 (18, ["number"]) rfl rfl) hr (E.glo 8) (E.df 7 (d := d7)).kp (bd_7 E) (L2N.takes_of rfl rfl rfl rfl) (da_cons (de_var (i := 0)) da_nil))) (dg_name (i := 3) nd) (ds_one (ds_exp (de_apnd (de_var (i := 2)) (de_tup (da_cons (de_bin dop_mul (de_un dun_neg (de_bin dop_add (de_bin dop_fdiv (de_bin dop_sub (de_var (i := 3)) de_int) (de_bin dop_add (de_bin dop_mul de_int (de_var (i := 1))) de_int)) de_int)) (de_bin dop_fdiv (de_var (i := 0)) (de_var (i := 3)))) (da_cons (de_var (i := 3)) da_nil)))))))
    (ds_cons (ds_asg (de_bi (dc_minPr rfl hr.units) (E.free 10) rfl (da_cons (de_var (i := 2)) da_nil)) (dg_tup rfl (dgs_cons (dg_name (i := 4) nd) (dgs_cons (dg_name (i := 3) nd) dgs_nil)) (lenS (lenS len0))))
    (ds_one (ds_ret (de_tup (da_cons (de_un dun_neg (de_var (i := 4))) (da_cons (de_var (i := 3)) da_nil))))))))
theorem ok_13 (E : Ev fa fn ts ex w K mg) {n : Nat} (IH : Lev P w K mg base (TT K) fn ids tab n) : FnOk P w K mg base (L2N.CX P w) (8 * (n + 1)) (fA K d13.at_) (fdK K d13.at_) ["clock", "size", "other_size"] (fnD K (TT K) (GG tab (n + 1) 68)) := by
  have nd := sc_13.nd
  rw [GG_succ (show tab 68 = some (true, 3, 3, b_clocks_check_sizes) from rfl)]
  refine fn_ok (k := 8 * n + 7) (N := ["clock", "size", "other_size"]) (ps := ["clock", "size", "other_size"]) (b := b_clocks_check_sizes (GG tab n)) (fz := true) (E.df 13 (d := d13)) sc_13 fun cdv A outer s H X' hr5 => ?_
  have hr4 := hr5.mono (j := 8 * n + 4) (by omega)
  have hr2 := hr5.mono (j := 8 * n + 2) (by omega)
  have hr1 := hr5.mono (j := 8 * n + 1) (by omega)
  have hr := hr5.mono (j := 8 * n) (by omega)
  exact (ds_cons (ds_exp (de_call (k := 8 * n) (IH 4 d4 (12, ["clock", "most"]) rfl rfl) hr (E.glo 12) (E.df 4 (d := d4)).kp (bd_4 E) (L2N.takes_of rfl rfl rfl rfl) (da_cons (de_var (i := 0)) (da_cons (de_gint (E.int 11)) da_nil))))
    (ds_cons (ds_exp (de_call (k := 8 * n) (IH 5 d5 (13, ["size", "clock"]) rfl rfl) hr (E.glo 13) (E.df 5 (d := d5)).kp (bd_5 E) (L2N.takes_of rfl rfl rfl rfl) (da_cons (de_var (i := 1)) (da_cons (de_var (i := 0)) da_nil))))
    (ds_one (ds_exp (de_call (k := 8 * n) (IH 5 d5 (13, ["size", "clock"]) rfl rfl) hr (E.glo 13) (E.df 5 (d := d5)).kp (bd_5 E) (L2N.takes_of rfl rfl rfl rfl) (da_cons (de_var (i := 2)) (da_cons (de_var (i := 0)) da_nil)))))))
theorem ok_14 (E : Ev fa fn ts ex w K mg) {n : Nat} (IH : Lev P w K mg base (TT K) fn ids tab n) : FnOk P w K mg base (L2N.CX P w) (8 * (n + 1)) (fA K d14.at_) (fdK K d14.at_) ["clock", "size", "times"] (fnD K (TT K) (GG tab (n + 1) 69)) := by
  have nd := sc_14.nd
  rw [GG_succ (show tab 69 = some (true, 3, 3, b_clocks_check_fold) from rfl)]
  refine fn_ok (k := 8 * n + 7) (N := ["clock", "size", "times"]) (ps := ["clock", "size", "times"]) (b := b_clocks_check_fold (GG tab n)) (fz := true) (E.df 14 (d := d14)) sc_14 fun cdv A outer s H X' hr5 => ?_
  have hr4 := hr5.mono (j := 8 * n + 4) (by omega)
  have hr2 := hr5.mono (j := 8 * n + 2) (by omega)
  have hr1 := hr5.mono (j := 8 * n + 1) (by omega)
  have hr := hr5.mono (j := 8 * n) (by omega)
  exact (ds_cons (ds_exp (de_call (k := 8 * n) (IH 4 d4 (12, ["clock", "most"]) rfl rfl) hr (E.glo 12) (E.df 4 (d := d4)).kp (bd_4 E) (L2N.takes_of rfl rfl rfl rfl) (da_cons (de_var (i := 0)) (da_cons (de_gint (E.int 11)) da_nil))))
    (ds_cons (ds_exp (de_call (k := 8 * n) (IH 5 d5 (13, ["size", "clock"]) rfl rfl) hr (E.glo 13) (E.df 5 (d := d5)).kp (bd_5 E) (L2N.takes_of rfl rfl rfl rfl) (da_cons (de_var (i := 1)) (da_cons (de_var (i := 0)) da_nil))))
    (ds_one (ds_exp (de_call (k := 8 * n) (IH 6 d6 (14, ["times", "least"]) rfl rfl) hr (E.glo 14) (E.df 6 (d := d6)).kp (bd_6 E) (L2N.takes_of rfl rfl rfl rfl) (da_cons (de_var (i := 2)) (da_cons de_int da_nil)))))))
theorem ok_15 (E : Ev fa fn ts ex w K mg) {n : Nat} (IH : Lev P w K mg base (TT K) fn ids tab n) : FnOk P w K mg base (L2N.CX P w) (8 * (n + 1)) (fA K d15.at_) (fdK K d15.at_) ["clock", "times"] (fnD K (TT K) (GG tab (n + 1) 70)) := by
  have nd := sc_15.nd
  rw [GG_succ (show tab 70 = some (true, 2, 2, b_clocks_check_asked) from rfl)]
  refine fn_ok (k := 8 * n + 7) (N := ["clock", "times"]) (ps := ["clock", "times"]) (b := b_clocks_check_asked (GG tab n)) (fz := true) (E.df 15 (d := d15)) sc_15 fun cdv A outer s H X' hr5 => ?_
  have hr4 := hr5.mono (j := 8 * n + 4) (by omega)
  have hr2 := hr5.mono (j := 8 * n + 2) (by omega)
  have hr1 := hr5.mono (j := 8 * n + 1) (by omega)
  have hr := hr5.mono (j := 8 * n) (by omega)
  exact (ds_cons (ds_exp (de_call (k := 8 * n) (IH 4 d4 (12, ["clock", "most"]) rfl rfl) hr (E.glo 12) (E.df 4 (d := d4)).kp (bd_4 E) (L2N.takes_of rfl rfl rfl rfl) (da_cons (de_var (i := 0)) (da_cons (de_gint (E.int 11)) da_nil))))
    (ds_one (ds_exp (de_call (k := 8 * n) (IH 6 d6 (14, ["times", "least"]) rfl rfl) hr (E.glo 14) (E.df 6 (d := d6)).kp (bd_6 E) (L2N.takes_of rfl rfl rfl rfl) (da_cons (de_var (i := 1)) (da_cons de_int da_nil))))))
theorem ok_16 (E : Ev fa fn ts ex w K mg) {n : Nat} (IH : Lev P w K mg base (TT K) fn ids tab n) : FnOk P w K mg base (L2N.CX P w) (8 * (n + 1)) (fA K d16.at_) (fdK K d16.at_) ["clock", "size", "other_size"] (fnD K (TT K) (GG tab (n + 1) 124)) := by
  have nd := sc_16.nd
  rw [GG_succ (show tab 124 = some (true, 3, 5, b_certificates_certify_least) from rfl)]
  refine fn_ok (k := 8 * n + 7) (N := ["clock", "size", "other_size", "number", "divisor"]) (ps := ["clock", "size", "other_size"]) (b := b_certificates_certify_least (GG tab n)) (fz := true) (E.df 16 (d := d16)) sc_16 fun cdv A outer s H X' hr5 => ?_
  have hr4 := hr5.mono (j := 8 * n + 4) (by omega)
  have hr2 := hr5.mono (j := 8 * n + 2) (by omega)
  have hr1 := hr5.mono (j := 8 * n + 1) (by omega)
  have hr := hr5.mono (j := 8 * n) (by omega)
  exact (ds_cons (ds_exp (de_call (k := 8 * n) (IH 13 d13 (68, ["clock", "size", "other_size"]) rfl rfl) hr (E.glo 15) (E.df 13 (d := d13)).kp (bd_13 E) (L2N.takes_of rfl rfl rfl rfl) (da_cons (de_var (i := 0)) (da_cons (de_var (i := 1)) (da_cons (de_var (i := 2)) da_nil)))))
    (ds_cons (ds_asg (de_call (k := 8 * n) (IH 9 d9 (64, ["clock", "size", "other_size"]) rfl rfl) hr (E.glo 16) (E.df 9 (d := d9)).kp (bd_9 E) (L2N.takes_of rfl rfl rfl rfl) (da_cons (de_var (i := 0)) (da_cons (de_var (i := 1)) (da_cons (de_var (i := 2)) da_nil)))) (dg_tup rfl (dgs_cons (dg_name (i := 3) nd) (dgs_cons (dg_name (i := 4) nd) dgs_nil)) (lenS (lenS len0))))
    (ds_one (ds_ret (de_tup (da_cons (de_tup (da_cons de_str (da_cons (de_var (i := 0)) (da_cons (de_var (i := 1)) (da_cons (de_var (i := 2)) (da_cons (de_var (i := 3)) da_nil)))))) (da_cons (de_var (i := 4)) da_nil)))))))
theorem ok_17 (E : Ev fa fn ts ex w K mg) {n : Nat} (IH : Lev P w K mg base (TT K) fn ids tab n) : FnOk P w K mg base (L2N.CX P w) (8 * (n + 1)) (fA K d17.at_) (fdK K d17.at_) ["clock", "size", "times"] (fnD K (TT K) (GG tab (n + 1) 125)) := by
  have nd := sc_17.nd
  rw [GG_succ (show tab 125 = some (true, 3, 5, b_certificates_certify_fold) from rfl)]
  refine fn_ok (k := 8 * n + 7) (N := ["clock", "size", "times", "number", "divisor"]) (ps := ["clock", "size", "times"]) (b := b_certificates_certify_fold (GG tab n)) (fz := true) (E.df 17 (d := d17)) sc_17 fun cdv A outer s H X' hr5 => ?_
  have hr4 := hr5.mono (j := 8 * n + 4) (by omega)
  have hr2 := hr5.mono (j := 8 * n + 2) (by omega)
  have hr1 := hr5.mono (j := 8 * n + 1) (by omega)
  have hr := hr5.mono (j := 8 * n) (by omega)
  exact (ds_cons (ds_exp (de_call (k := 8 * n) (IH 14 d14 (69, ["clock", "size", "times"]) rfl rfl) hr (E.glo 17) (E.df 14 (d := d14)).kp (bd_14 E) (L2N.takes_of rfl rfl rfl rfl) (da_cons (de_var (i := 0)) (da_cons (de_var (i := 1)) (da_cons (de_var (i := 2)) da_nil)))))
    (ds_cons (ds_asg (de_call (k := 8 * n) (IH 10 d10 (65, ["clock", "size", "times"]) rfl rfl) hr (E.glo 18) (E.df 10 (d := d10)).kp (bd_10 E) (L2N.takes_of rfl rfl rfl rfl) (da_cons (de_var (i := 0)) (da_cons (de_var (i := 1)) (da_cons (de_var (i := 2)) da_nil)))) (dg_tup rfl (dgs_cons (dg_name (i := 3) nd) (dgs_cons (dg_name (i := 4) nd) dgs_nil)) (lenS (lenS len0))))
    (ds_one (ds_ret (de_tup (da_cons (de_tup (da_cons de_str (da_cons (de_var (i := 0)) (da_cons (de_var (i := 1)) (da_cons (de_var (i := 2)) (da_cons (de_var (i := 3)) da_nil)))))) (da_cons (de_var (i := 4)) da_nil)))))))
theorem ok_18 (E : Ev fa fn ts ex w K mg) {n : Nat} (IH : Lev P w K mg base (TT K) fn ids tab n) : FnOk P w K mg base (L2N.CX P w) (8 * (n + 1)) (fA K d18.at_) (fdK K d18.at_) ["clock", "times"] (fnD K (TT K) (GG tab (n + 1) 126)) := by
  have nd := sc_18.nd
  rw [GG_succ (show tab 126 = some (true, 2, 4, b_certificates_certify_reach) from rfl)]
  refine fn_ok (k := 8 * n + 7) (N := ["clock", "times", "number", "divisor"]) (ps := ["clock", "times"]) (b := b_certificates_certify_reach (GG tab n)) (fz := true) (E.df 18 (d := d18)) sc_18 fun cdv A outer s H X' hr5 => ?_
  have hr4 := hr5.mono (j := 8 * n + 4) (by omega)
  have hr2 := hr5.mono (j := 8 * n + 2) (by omega)
  have hr1 := hr5.mono (j := 8 * n + 1) (by omega)
  have hr := hr5.mono (j := 8 * n) (by omega)
  exact (ds_cons (ds_exp (de_call (k := 8 * n) (IH 15 d15 (70, ["clock", "times"]) rfl rfl) hr (E.glo 19) (E.df 15 (d := d15)).kp (bd_15 E) (L2N.takes_of rfl rfl rfl rfl) (da_cons (de_var (i := 0)) (da_cons (de_var (i := 1)) da_nil))))
    (ds_cons (ds_asg (de_call (k := 8 * n) (IH 11 d11 (66, ["clock", "times"]) rfl rfl) hr (E.glo 20) (E.df 11 (d := d11)).kp (bd_11 E) (L2N.takes_of rfl rfl rfl rfl) (da_cons (de_var (i := 0)) (da_cons (de_var (i := 1)) da_nil))) (dg_tup rfl (dgs_cons (dg_name (i := 2) nd) (dgs_cons (dg_name (i := 3) nd) dgs_nil)) (lenS (lenS len0))))
    (ds_one (ds_ret (de_tup (da_cons (de_tup (da_cons de_str (da_cons (de_var (i := 0)) (da_cons (de_var (i := 1)) (da_cons (de_var (i := 2)) da_nil))))) (da_cons (de_var (i := 3)) da_nil)))))))
theorem ok_19 (E : Ev fa fn ts ex w K mg) {n : Nat} (IH : Lev P w K mg base (TT K) fn ids tab n) : FnOk P w K mg base (L2N.CX P w) (8 * (n + 1)) (fA K d19.at_) (fdK K d19.at_) ["clock", "times"] (fnD K (TT K) (GG tab (n + 1) 127)) := by
  have nd := sc_19.nd
  rw [GG_succ (show tab 127 = some (true, 2, 4, b_certificates_certify_apart) from rfl)]
  refine fn_ok (k := 8 * n + 7) (N := ["clock", "times", "number", "divisor"]) (ps := ["clock", "times"]) (b := b_certificates_certify_apart (GG tab n)) (fz := true) (E.df 19 (d := d19)) sc_19 fun cdv A outer s H X' hr5 => ?_
  have hr4 := hr5.mono (j := 8 * n + 4) (by omega)
  have hr2 := hr5.mono (j := 8 * n + 2) (by omega)
  have hr1 := hr5.mono (j := 8 * n + 1) (by omega)
  have hr := hr5.mono (j := 8 * n) (by omega)
  exact (ds_cons (ds_exp (de_call (k := 8 * n) (IH 15 d15 (70, ["clock", "times"]) rfl rfl) hr (E.glo 19) (E.df 15 (d := d15)).kp (bd_15 E) (L2N.takes_of rfl rfl rfl rfl) (da_cons (de_var (i := 0)) (da_cons (de_var (i := 1)) da_nil))))
    (ds_cons (ds_asg (de_call (k := 8 * n) (IH 12 d12 (67, ["clock", "times"]) rfl rfl) hr (E.glo 21) (E.df 12 (d := d12)).kp (bd_12 E) (L2N.takes_of rfl rfl rfl rfl) (da_cons (de_var (i := 0)) (da_cons (de_var (i := 1)) da_nil))) (dg_tup rfl (dgs_cons (dg_name (i := 2) nd) (dgs_cons (dg_name (i := 3) nd) dgs_nil)) (lenS (lenS len0))))
    (ds_one (ds_ret (de_tup (da_cons (de_tup (da_cons de_str (da_cons (de_var (i := 0)) (da_cons (de_var (i := 1)) (da_cons (de_var (i := 2)) da_nil))))) (da_cons (de_var (i := 3)) da_nil)))))))
theorem ok_20 (E : Ev fa fn ts ex w K mg) {n : Nat} (IH : Lev P w K mg base (TT K) fn ids tab n) : FnOk P w K mg base (L2N.CX P w) (8 * (n + 1)) (fA K d20.at_) (fdK K d20.at_) ["value"] (fnD K (TT K) (GG tab (n + 1) 107)) := by
  have nd := sc_20.nd
  rw [GG_succ (show tab 107 = some (true, 1, 1, b_checker_is_integer) from rfl)]
  refine fn_ok (k := 8 * n + 7) (N := ["value"]) (ps := ["value"]) (b := b_checker_is_integer (GG tab n)) (fz := true) (E.df 20 (d := d20)) sc_20 fun cdv A outer s H X' hr5 => ?_
  have hr4 := hr5.mono (j := 8 * n + 4) (by omega)
  have hr2 := hr5.mono (j := 8 * n + 2) (by omega)
  have hr1 := hr5.mono (j := 8 * n + 1) (by omega)
  have hr := hr5.mono (j := 8 * n) (by omega)
  exact (ds_one (ds_ret (de_and (de_isi kit_int (de_var (i := 0)) (E.free 0) (E.free 1) rfl) (de_one (de_not (de_isi kit_bool (de_var (i := 0)) (E.free 0) (E.free 2) rfl))))))
theorem ok_21 (E : Ev fa fn ts ex w K mg) {n : Nat} (IH : Lev P w K mg base (TT K) fn ids tab n) : FnOk P w K mg base (L2N.CX P w) (8 * (n + 1)) (fA K d21.at_) (fdK K d21.at_) ["value", "least", "most"] (fnD K (TT K) (GG tab (n + 1) 108)) := by
  have nd := sc_21.nd
  rw [GG_succ (show tab 108 = some (true, 3, 3, b_checker_is_number) from rfl)]
  refine fn_ok (k := 8 * n + 7) (N := ["value", "least", "most"]) (ps := ["value", "least", "most"]) (b := b_checker_is_number (GG tab n)) (fz := true) (E.df 21 (d := d21)) sc_21 fun cdv A outer s H X' hr5 => ?_
  have hr4 := hr5.mono (j := 8 * n + 4) (by omega)
  have hr2 := hr5.mono (j := 8 * n + 2) (by omega)
  have hr1 := hr5.mono (j := 8 * n + 1) (by omega)
  have hr := hr5.mono (j := 8 * n) (by omega)
  exact (ds_one (ds_ret (de_and (de_call (k := 8 * n) (IH 20 d20 (107, ["value"]) rfl rfl) hr (E.glo 22) (E.df 20 (d := d20)).kp (bd_20 E) (L2N.takes_of rfl rfl rfl rfl) (da_cons (de_var (i := 0)) da_nil)) (de_one (de_chain dop_le dop_le (de_var (i := 1)) (de_var (i := 0)) (de_var (i := 2)))))))
theorem ok_22 (E : Ev fa fn ts ex w K mg) {n : Nat} (IH : Lev P w K mg base (TT K) fn ids tab n) : FnOk P w K mg base (L2N.CX P w) (8 * (n + 1)) (fA K d22.at_) (fdK K d22.at_) ["claim", "certificate"] (fnD K (TT K) (GG tab (n + 1) 109)) := by
  have nd := sc_22.nd
  rw [GG_succ (show tab 109 = some (true, 2, 4, b_checker_accepts) from rfl)]
  refine fn_ok (k := 8 * n + 7) (N := ["claim", "certificate", "word", "parts"]) (ps := ["claim", "certificate"]) (b := b_checker_accepts (GG tab n)) (fz := true) (E.df 22 (d := d22)) sc_22 fun cdv A outer s H X' hr5 => ?_
  have hr4 := hr5.mono (j := 8 * n + 4) (by omega)
  have hr2 := hr5.mono (j := 8 * n + 2) (by omega)
  have hr1 := hr5.mono (j := 8 * n + 1) (by omega)
  have hr := hr5.mono (j := 8 * n) (by omega)
  exact (ds_cons (ds_if (PW.pt (dw_or (dt_not (dt_tru (de_isi kit_tuple (de_var (i := 0)) (E.free 0) (E.free 23) rfl))) (dw_or (dt_cmp (dop_eq hr.units) (de_bi dc_len (E.free 24) rfl (da_cons (de_var (i := 0)) da_nil)) de_int) (dw_or1 (dt_not (dt_tru (de_isi kit_str (de_idx dix (de_var (i := 0)) de_int) (E.free 0) (E.free 25) rfl))))))) (ds_one (ds_ret de_bl)) ds_nil)
    (ds_cons (ds_par2 (i := 2) (j := 3) (da_cons (de_idx dix (de_var (i := 0)) de_int) (da_cons (de_sl (de_var (i := 0)) (do_some de_int) do_none) da_nil)) rfl nd rfl rfl (by decide) (by first | rfl | kernel_rfl) (by first | rfl | kernel_rfl) (ps_par rfl nd rfl rfl (by decide) (by first | rfl | kernel_rfl) (by first | rfl | kernel_rfl) (da_cons (de_idx dix (de_var (i := 0)) de_int) (da_cons (de_sl (de_var (i := 0)) (do_some de_int) do_none) da_nil)) (by first | rfl | kernel_rfl)))
    (ds_cons (ds_if (dt_cmp (dop_ne hr.units) (de_kget (ktab_0 E) (E.glo 26) (de_var (i := 2)) de_int) (de_bi dc_len (E.free 24) rfl (da_cons (de_var (i := 0)) da_nil))) (ds_one (ds_ret de_bl)) ds_nil)
    (ds_cons (ds_if (dt_cmp (dop_in hr.units) (de_var (i := 2)) (de_tup (da_cons de_str (da_cons de_str (da_cons de_str (da_cons de_str da_nil)))))) (ds_one (ds_ret (de_and (de_call (k := 8 * n) (IH 23 d23 (110, ["word", "parts"]) rfl rfl) hr (E.glo 27) (E.df 23 (d := d23)).kp (bd_23 E) (L2N.takes_of rfl rfl rfl rfl) (da_cons (de_var (i := 2)) (da_cons (de_var (i := 3)) da_nil))) (de_one (de_call (k := 8 * n) (IH 26 d26 (113, ["word", "parts", "divisor"]) rfl rfl) hr (E.glo 28) (E.df 26 (d := d26)).kp (bd_26 E) (L2N.takes_of rfl rfl rfl rfl) (da_cons (de_var (i := 2)) (da_cons (de_var (i := 3)) (da_cons (de_var (i := 1)) da_nil)))))))) ds_nil)
    (ds_cons (ds_if (dt_cmp (dop_in hr.units) (de_var (i := 2)) (de_tup (da_cons de_str (da_cons de_str da_nil)))) (ds_one (ds_ret (de_call (k := 8 * n) (IH 32 d32 (119, ["word", "parts", "certificate"]) rfl rfl) hr (E.glo 29) (E.df 32 (d := d32)).kp (bd_32 E) (L2N.takes_of rfl rfl rfl rfl) (da_cons (de_var (i := 2)) (da_cons (de_var (i := 3)) (da_cons (de_var (i := 1)) da_nil)))))) ds_nil)
    (ds_one (ds_ret (de_call (k := 8 * n) (IH 33 d33 (120, ["word", "parts", "certificate"]) rfl rfl) hr (E.glo 30) (E.df 33 (d := d33)).kp (bd_33 E) (L2N.takes_of rfl rfl rfl rfl) (da_cons (de_var (i := 2)) (da_cons (de_var (i := 3)) (da_cons (de_var (i := 1)) da_nil)))))))))))
theorem ok_23 (E : Ev fa fn ts ex w K mg) {n : Nat} (IH : Lev P w K mg base (TT K) fn ids tab n) : FnOk P w K mg base (L2N.CX P w) (8 * (n + 1)) (fA K d23.at_) (fdK K d23.at_) ["word", "parts"] (fnD K (TT K) (GG tab (n + 1) 110)) := by
  have nd := sc_23.nd
  rw [GG_succ (show tab 110 = some (true, 2, 3, b_checker_are_sizes) from rfl)]
  refine fn_ok (k := 8 * n + 7) (N := ["word", "parts", "clock"]) (ps := ["word", "parts"]) (b := b_checker_are_sizes (GG tab n)) (fz := true) (E.df 23 (d := d23)) sc_23 fun cdv A outer s H X' hr5 => ?_
  have hr4 := hr5.mono (j := 8 * n + 4) (by omega)
  have hr2 := hr5.mono (j := 8 * n + 2) (by omega)
  have hr1 := hr5.mono (j := 8 * n + 1) (by omega)
  have hr := hr5.mono (j := 8 * n) (by omega)
  exact (ds_cons (ds_set (i := 2) (de_idx dix (de_var (i := 1)) de_int) nd)
    (ds_cons (ds_if (PW.pt (dw_or (dt_not (dt_tru (de_call (k := 8 * n) (IH 21 d21 (108, ["value", "least", "most"]) rfl rfl) hr (E.glo 31) (E.df 21 (d := d21)).kp (bd_21 E) (L2N.takes_of rfl rfl rfl rfl) (da_cons (de_var (i := 2)) (da_cons de_int (da_cons (de_gint (E.int 11)) da_nil)))))) (dw_or1 (dt_not (dt_tru (de_call (k := 8 * n) (IH 20 d20 (107, ["value"]) rfl rfl) hr (E.glo 22) (E.df 20 (d := d20)).kp (bd_20 E) (L2N.takes_of rfl rfl rfl rfl) (da_cons (de_idx dix (de_var (i := 1)) (de_un dun_neg de_int)) da_nil))))))) (ds_one (ds_ret de_bl)) ds_nil)
    (ds_cons (ds_if (dt_cmp (dop_eq hr.units) (de_var (i := 0)) de_str) (ds_one (ds_ret (de_and (de_call (k := 8 * n) (IH 21 d21 (108, ["value", "least", "most"]) rfl rfl) hr (E.glo 31) (E.df 21 (d := d21)).kp (bd_21 E) (L2N.takes_of rfl rfl rfl rfl) (da_cons (de_idx dix (de_var (i := 1)) de_int) (da_cons de_int (da_cons (de_var (i := 2)) da_nil)))) (de_one (de_call (k := 8 * n) (IH 21 d21 (108, ["value", "least", "most"]) rfl rfl) hr (E.glo 31) (E.df 21 (d := d21)).kp (bd_21 E) (L2N.takes_of rfl rfl rfl rfl) (da_cons (de_idx dix (de_var (i := 1)) de_int) (da_cons de_int (da_cons (de_var (i := 2)) da_nil)))))))) ds_nil)
    (ds_cons (ds_if (dt_cmp (dop_eq hr.units) (de_var (i := 0)) de_str) (ds_one (ds_ret (de_and (de_call (k := 8 * n) (IH 21 d21 (108, ["value", "least", "most"]) rfl rfl) hr (E.glo 31) (E.df 21 (d := d21)).kp (bd_21 E) (L2N.takes_of rfl rfl rfl rfl) (da_cons (de_idx dix (de_var (i := 1)) de_int) (da_cons de_int (da_cons (de_var (i := 2)) da_nil)))) (de_one (de_call (k := 8 * n) (IH 21 d21 (108, ["value", "least", "most"]) rfl rfl) hr (E.glo 31) (E.df 21 (d := d21)).kp (bd_21 E) (L2N.takes_of rfl rfl rfl rfl) (da_cons (de_idx dix (de_var (i := 1)) de_int) (da_cons de_int (da_cons (de_gint (E.int 7)) da_nil)))))))) ds_nil)
    (ds_one (ds_ret (de_call (k := 8 * n) (IH 21 d21 (108, ["value", "least", "most"]) rfl rfl) hr (E.glo 31) (E.df 21 (d := d21)).kp (bd_21 E) (L2N.takes_of rfl rfl rfl rfl) (da_cons (de_idx dix (de_var (i := 1)) de_int) (da_cons de_int (da_cons (de_gint (E.int 7)) da_nil))))))))))
theorem ok_24 (E : Ev fa fn ts ex w K mg) {n : Nat} (IH : Lev P w K mg base (TT K) fn ids tab n) : FnOk P w K mg base (L2N.CX P w) (8 * (n + 1)) (fA K d24.at_) (fdK K d24.at_) ["number", "divisor"] (fnD K (TT K) (GG tab (n + 1) 111)) := by
  have nd := sc_24.nd
  rw [GG_succ (show tab 111 = some (true, 2, 2, b_checker_divided_up) from rfl)]
  refine fn_ok (k := 8 * n + 7) (N := ["number", "divisor"]) (ps := ["number", "divisor"]) (b := b_checker_divided_up (GG tab n)) (fz := true) (E.df 24 (d := d24)) sc_24 fun cdv A outer s H X' hr5 => ?_
  have hr4 := hr5.mono (j := 8 * n + 4) (by omega)
  have hr2 := hr5.mono (j := 8 * n + 2) (by omega)
  have hr1 := hr5.mono (j := 8 * n + 1) (by omega)
  have hr := hr5.mono (j := 8 * n) (by omega)
  exact (ds_one (ds_ret (de_bin dop_fdiv (de_bin dop_sub (de_bin dop_add (de_var (i := 0)) (de_var (i := 1))) de_int) (de_var (i := 1)))))
theorem ok_25 (E : Ev fa fn ts ex w K mg) {n : Nat} (IH : Lev P w K mg base (TT K) fn ids tab n) : FnOk P w K mg base (L2N.CX P w) (8 * (n + 1)) (fA K d25.at_) (fdK K d25.at_) ["word", "parts", "divisor"] (fnD K (TT K) (GG tab (n + 1) 112)) := by
  have nd := sc_25.nd
  rw [GG_succ (show tab 112 = some (true, 3, 4, b_checker_number_at) from rfl)]
  refine fn_ok (k := 8 * n + 7) (N := ["word", "parts", "divisor", "many"]) (ps := ["word", "parts", "divisor"]) (b := b_checker_number_at (GG tab n)) (fz := true) (E.df 25 (d := d25)) sc_25 fun cdv A outer s H X' hr5 => ?_
  have hr4 := hr5.mono (j := 8 * n + 4) (by omega)
  have hr2 := hr5.mono (j := 8 * n + 2) (by omega)
  have hr1 := hr5.mono (j := 8 * n + 1) (by omega)
  have hr := hr5.mono (j := 8 * n) (by omega)
  exact (ds_cons (ds_if (dt_cmp (dop_eq hr.units) (de_var (i := 0)) de_str) (ds_one (ds_ret (de_bin dop_mul (de_bin dop_sub (de_bin dop_add (de_call (k := 8 * n) (IH 24 d24 (111, ["number", "divisor"]) rfl rfl) hr (E.glo 32) (E.df 24 (d := d24)).kp (bd_24 E) (L2N.takes_of rfl rfl rfl rfl) (da_cons (de_idx dix (de_var (i := 1)) de_int) (da_cons (de_var (i := 2)) da_nil))) (de_call (k := 8 * n) (IH 24 d24 (111, ["number", "divisor"]) rfl rfl) hr (E.glo 32) (E.df 24 (d := d24)).kp (bd_24 E) (L2N.takes_of rfl rfl rfl rfl) (da_cons (de_idx dix (de_var (i := 1)) de_int) (da_cons (de_var (i := 2)) da_nil)))) de_int) (de_var (i := 2))))) ds_nil)
    (ds_cons (ds_if (dt_cmp (dop_eq hr.units) (de_var (i := 0)) de_str) (ds_one (ds_ret (de_bin dop_mul (de_bin dop_add (de_bin dop_mul (de_idx dix (de_var (i := 1)) de_int) (de_bin dop_sub (de_call (k := 8 * n) (IH 24 d24 (111, ["number", "divisor"]) rfl rfl) hr (E.glo 32) (E.df 24 (d := d24)).kp (bd_24 E) (L2N.takes_of rfl rfl rfl rfl) (da_cons (de_idx dix (de_var (i := 1)) de_int) (da_cons (de_var (i := 2)) da_nil))) de_int)) de_int) (de_var (i := 2))))) ds_nil)
    (ds_cons (ds_set (i := 3) (de_bin dop_fdiv (de_idx dix (de_var (i := 1)) de_int) (de_var (i := 2))) nd)
    (ds_cons (ds_if (dt_cmp (dop_eq hr.units) (de_var (i := 0)) de_str) (ds_one (ds_ret (de_bin dop_mul (de_call (k := 8 * n) (IH 24 d24 (111, ["number", "divisor"]) rfl rfl) hr (E.glo 32) (E.df 24 (d := d24)).kp (bd_24 E) (L2N.takes_of rfl rfl rfl rfl) (da_cons (de_bin dop_sub (de_var (i := 3)) de_int) (da_cons (de_idx dix (de_var (i := 1)) de_int) da_nil))) (de_var (i := 2))))) ds_nil)
    (ds_one (ds_ret (de_bin dop_mul (de_bin dop_add (de_bin dop_fdiv (de_bin dop_sub (de_var (i := 2)) de_int) (de_bin dop_add (de_bin dop_mul de_int (de_idx dix (de_var (i := 1)) de_int)) de_int)) de_int) (de_var (i := 3)))))))))
theorem ok_26 (E : Ev fa fn ts ex w K mg) {n : Nat} (IH : Lev P w K mg base (TT K) fn ids tab n) : FnOk P w K mg base (L2N.CX P w) (8 * (n + 1)) (fA K d26.at_) (fdK K d26.at_) ["word", "parts", "divisor"] (fnD K (TT K) (GG tab (n + 1) 113)) := by
  have nd := sc_26.nd
  rw [GG_succ (show tab 113 = some (true, 3, 9, b_checker_is_told) from rfl)]
  refine fn_ok (k := 8 * n + 7) (N := ["word", "parts", "divisor", "clock", "told", "here", "low", "other", "number"]) (ps := ["word", "parts", "divisor"]) (b := b_checker_is_told (GG tab n)) (fz := true) (E.df 26 (d := d26)) sc_26 fun cdv A outer s H X' hr5 => ?_
  have hr4 := hr5.mono (j := 8 * n + 4) (by omega)
  have hr2 := hr5.mono (j := 8 * n + 2) (by omega)
  have hr1 := hr5.mono (j := 8 * n + 1) (by omega)
  have hr := hr5.mono (j := 8 * n) (by omega)
  exact (ds_cons (ds_par2 (i := 3) (j := 4) (da_cons (de_idx dix (de_var (i := 1)) de_int) (da_cons (de_idx dix (de_var (i := 1)) (de_un dun_neg de_int)) da_nil)) rfl nd rfl rfl (by decide) (by first | rfl | kernel_rfl) (by first | rfl | kernel_rfl) (ps_par rfl nd rfl rfl (by decide) (by first | rfl | kernel_rfl) (by first | rfl | kernel_rfl) (da_cons (de_idx dix (de_var (i := 1)) de_int) (da_cons (de_idx dix (de_var (i := 1)) (de_un dun_neg de_int)) da_nil)) (by first | rfl | kernel_rfl)))
    (ds_cons (ds_if (PW.pt (dw_or (dt_not (dt_tru (de_call (k := 8 * n) (IH 21 d21 (108, ["value", "least", "most"]) rfl rfl) hr (E.glo 31) (E.df 21 (d := d21)).kp (bd_21 E) (L2N.takes_of rfl rfl rfl rfl) (da_cons (de_var (i := 2)) (da_cons de_int (da_cons (de_var (i := 3)) da_nil)))))) (dw_or1 (dt_cmp (dop_ne hr.units) (de_bin dop_mod (de_var (i := 3)) (de_var (i := 2))) de_int)))) (ds_one (ds_ret de_bl)) ds_nil)
    (ds_cons (ds_set (i := 5) (de_call (k := 8 * n) (IH 25 d25 (112, ["word", "parts", "divisor"]) rfl rfl) hr (E.glo 33) (E.df 25 (d := d25)).kp (bd_25 E) (L2N.takes_of rfl rfl rfl rfl) (da_cons (de_var (i := 0)) (da_cons (de_var (i := 1)) (da_cons (de_var (i := 2)) da_nil)))) nd)
    (ds_cons (ds_if (dt_cmp (dop_ne hr.units) (de_var (i := 4)) (de_if (dt_cmp (dop_eq hr.units) (de_var (i := 0)) de_str) (de_bin dop_add (de_var (i := 5)) de_int) (de_var (i := 5)))) (ds_one (ds_ret de_bl)) ds_nil)
    (ds_cons (ds_set (i := 6) de_int nd)
    (ds_cons (ds_while (passes_of rfl) (dt_cmp dop_le (de_bin dop_mul (de_var (i := 6)) (de_var (i := 6))) (de_var (i := 3))) (ds_cons (ds_if (dt_cmp (dop_eq hr.units) (de_bin dop_mod (de_var (i := 3)) (de_var (i := 6))) de_int) (ds_one (ds_for (passes_of rfl) rfl (di_seq (de_tup (da_cons (de_var (i := 6)) (da_cons (de_bin dop_fdiv (de_var (i := 3)) (de_var (i := 6))) da_nil)))) (dg_name (i := 7) nd) (ds_cons (ds_set (i := 8) (de_call (k := 8 * n) (IH 25 d25 (112, ["word", "parts", "divisor"]) rfl rfl) hr (E.glo 33) (E.df 25 (d := d25)).kp (bd_25 E) (L2N.takes_of rfl rfl rfl rfl) (da_cons (de_var (i := 0)) (da_cons (de_var (i := 1)) (da_cons (de_var (i := 7)) da_nil)))) nd)
    (ds_one (ds_if (dt_ifx (dt_cmp (dop_in hr.units) (de_var (i := 0)) (de_tup (da_cons de_str (da_cons de_str da_nil)))) (dt_cmp dop_lt (de_var (i := 8)) (de_var (i := 5))) (dt_cmp dop_gt (de_var (i := 8)) (de_var (i := 5)))) (ds_one (ds_ret de_bl)) ds_nil))))) ds_nil)
    (ds_one (ds_set (i := 6) (de_bin dop_add (de_var (i := 6)) de_int) nd))))
    (ds_one (ds_ret de_bl))))))))
theorem ok_27 (E : Ev fa fn ts ex w K mg) {n : Nat} (IH : Lev P w K mg base (TT K) fn ids tab n) : FnOk P w K mg base (L2N.CX P w) (8 * (n + 1)) (fA K d27.at_) (fdK K d27.at_) ["text"] (fnD K (TT K) (GG tab (n + 1) 114)) := by
  have nd := sc_27.nd
  rw [GG_succ (show tab 114 = some (true, 1, 2, b_checker_number_of) from rfl)]
  refine fn_ok (k := 8 * n + 7) (N := ["text", "sign"]) (ps := ["text"]) (b := b_checker_number_of (GG tab n)) (fz := true) (E.df 27 (d := d27)) sc_27 fun cdv A outer s H X' hr5 => ?_
  have hr4 := hr5.mono (j := 8 * n + 4) (by omega)
  have hr2 := hr5.mono (j := 8 * n + 2) (by omega)
  have hr1 := hr5.mono (j := 8 * n + 1) (by omega)
  have hr := hr5.mono (j := 8 * n) (by omega)
  exact (ds_cons (ds_if (PW.pt (dw_or (dt_not (dt_chain dop_le dop_le de_int (de_bi dc_len (E.free 24) rfl (da_cons (de_var (i := 0)) da_nil)) de_int)) (dw_or1 (dt_not (dt_tru (de_bi (dc_all rfl) (E.free 34) rfl (da_cons (de_lc (own := [("sign", 1)]) rfl nd (di_seq (de_var (i := 0))) (blkOk_by (N := (["text", "sign"] : List Str)) (sc := (defScope (top 43))) (by decide +kernel)) (fun _ _ _ _ _ => pg_name (i := 1) nd rfl (by first | exact Or.inl rfl | exact Or.inr rfl)) (fun _ _ _ _ _ => dts_nil) (fun _ _ _ _ _ => (de_cmp (dop_in hr.units) (de_var (i := 1)) (de_gstr (E.str 35)))) (bdOk1 1)) da_nil))))))) (ds_one (ds_ret de_non)) ds_nil)
    (ds_one (ds_ret (de_if (PW.pt (dw_or (dt_cmp (dop_eq hr.units) (de_var (i := 0)) de_str) (dw_or1 (dt_cmp (dop_ne hr.units) (de_idx dix (de_var (i := 0)) de_int) de_str)))) (de_ty dc_intS (E.free 1) rfl (da_cons (de_var (i := 0)) da_nil)) de_non))))
theorem ok_28 (E : Ev fa fn ts ex w K mg) {n : Nat} (IH : Lev P w K mg base (TT K) fn ids tab n) : FnOk P w K mg base (L2N.CX P w) (8 * (n + 1)) (fA K d28.at_) (fdK K d28.at_) ["text"] (fnD K (TT K) (GG tab (n + 1) 115)) := by
  have nd := sc_28.nd
  rw [GG_succ (show tab 115 = some (true, 1, 8, b_checker_set_of) from rfl)]
  refine fn_ok (k := 8 * n + 7) (N := ["text", "head", "mark", "rest", "clock", "hours", "piece", "hour"]) (ps := ["text"]) (b := b_checker_set_of (GG tab n)) (fz := true) (E.df 28 (d := d28)) sc_28 fun cdv A outer s H X' hr5 => ?_
  have hr4 := hr5.mono (j := 8 * n + 4) (by omega)
  have hr2 := hr5.mono (j := 8 * n + 2) (by omega)
  have hr1 := hr5.mono (j := 8 * n + 1) (by omega)
  have hr := hr5.mono (j := 8 * n) (by omega)
  exact (ds_cons (ds_if (dt_not (dt_tru (de_isi kit_str (de_var (i := 0)) (E.free 0) (E.free 25) rfl))) (ds_one (ds_ret de_non)) ds_nil)
    (ds_cons (ds_asg (de_part (de_var (i := 0)) de_str) (dg_tup rfl (dgs_cons (dg_name (i := 1) nd) (dgs_cons (dg_name (i := 2) nd) (dgs_cons (dg_name (i := 3) nd) dgs_nil))) (lenS (lenS (lenS len0)))))
    (ds_cons (ds_set (i := 4) (de_call (k := 8 * n) (IH 27 d27 (114, ["text"]) rfl rfl) hr (E.glo 36) (E.df 27 (d := d27)).kp (bd_27 E) (L2N.takes_of rfl rfl rfl rfl) (da_cons (de_var (i := 1)) da_nil)) nd)
    (ds_cons (ds_if (PW.pt (dw_or (dt_cmp (dop_eq hr.units) (de_var (i := 2)) de_str) (dw_or (dt_cmp dop_is (de_var (i := 4)) de_non) (dw_or (dt_not (dt_chain dop_le dop_le de_int (de_var (i := 4)) (de_gint (E.int 37)))) (dw_or1 (dt_cmp (dop_notin hr.units) (de_slS (de_var (i := 3)) do_none (do_some de_int)) (de_tup (da_cons de_str (da_cons de_str da_nil))))))))) (ds_one (ds_ret de_non)) ds_nil)
    (ds_cons (ds_set (i := 5) (de_mut da_nil) nd)
    (ds_cons (ds_for (passes_of rfl) rfl (di_seq (de_sl (de_split (de_var (i := 3)) de_str) (do_some de_int) do_none)) (dg_name (i := 6) nd) (ds_cons (ds_set (i := 7) (de_call (k := 8 * n) (IH 27 d27 (114, ["text"]) rfl rfl) hr (E.glo 36) (E.df 27 (d := d27)).kp (bd_27 E) (L2N.takes_of rfl rfl rfl rfl) (da_cons (de_var (i := 6)) da_nil)) nd)
    (ds_cons (ds_if (PW.pt (dw_or (dt_cmp dop_is (de_var (i := 7)) de_non) (dw_or (dt_cmp dop_ge (de_var (i := 7)) (de_var (i := 4))) (dw_or1 (PW.pt (dw_and (dt_cmp (dop_ne hr.units) (de_var (i := 5)) (de_lst da_nil)) (dw_and1 (dt_cmp dop_le (de_var (i := 7)) (de_idx dix (de_var (i := 5)) (de_un dun_neg de_int)))))))))) (ds_one (ds_ret de_non)) ds_nil)
    (ds_one (ds_exp (de_apnd (de_var (i := 5)) (de_var (i := 7))))))))
    (ds_one (ds_ret (de_tup (da_cons (de_var (i := 4)) (da_cons (de_ty dc_tuple (E.free 23) rfl (da_cons (de_var (i := 5)) da_nil)) da_nil)))))))))))
theorem ok_29 (E : Ev fa fn ts ex w K mg) {n : Nat} (IH : Lev P w K mg base (TT K) fn ids tab n) : FnOk P w K mg base (L2N.CX P w) (8 * (n + 1)) (fA K d29.at_) (fdK K d29.at_) ["clock", "one", "other"] (fnD K (TT K) (GG tab (n + 1) 116)) := by
  have nd := sc_29.nd
  rw [GG_succ (show tab 116 = some (false, 3, 5, b_checker_sums_of) from rfl)]
  refine fn_ok (k := 8 * n + 7) (N := ["clock", "one", "other", "first", "second"]) (ps := ["clock", "one", "other"]) (b := b_checker_sums_of (GG tab n)) (fz := false) (E.df 29 (d := d29)) sc_29 fun cdv A outer s H X' hr5 => ?_
  have hr4 := hr5.mono (j := 8 * n + 4) (by omega)
  have hr2 := hr5.mono (j := 8 * n + 2) (by omega)
  have hr1 := hr5.mono (j := 8 * n + 1) (by omega)
  have hr := hr5.mono (j := 8 * n) (by omega)
  exact (ds_one (ds_ret (de_dc2 (own := [("first", 3), ("second", 4)]) (vs1 := [4]) rfl nd (di_seq (de_var (i := 1))) (blkOk_by (N := (["clock", "one", "other", "first", "second"] : List Str)) (sc := (defScope (top 45))) (by decide +kernel)) (by decide) (fun _ _ _ _ _ => pg_name (i := 3) nd rfl (by first | exact Or.inl rfl | exact Or.inr rfl)) (fun _ _ _ _ _ => (di_seq (de_var (i := 2)))) (fun _ _ _ _ _ => pg_name (i := 4) nd rfl (by first | exact Or.inl rfl | exact Or.inr rfl)) (fun _ _ _ _ _ => (de_bin dop_mod (de_bin dop_add (de_var (i := 3)) (de_var (i := 4))) (de_var (i := 0)))) (fun _ _ _ _ _ => de_bl) (bdOkM (by decide)) (bdOk1 4))))
theorem ok_30 (E : Ev fa fn ts ex w K mg) {n : Nat} (IH : Lev P w K mg base (TT K) fn ids tab n) : FnOk P w K mg base (L2N.CX P w) (8 * (n + 1)) (fA K d30.at_) (fdK K d30.at_) ["clock", "hours", "hour"] (fnD K (TT K) (GG tab (n + 1) 117)) := by
  have nd := sc_30.nd
  rw [GG_succ (show tab 117 = some (true, 3, 7, b_checker_fewest_of) from rfl)]
  refine fn_ok (k := 8 * n + 7) (N := ["clock", "hours", "hour", "counts", "last", "after", "found"]) (ps := ["clock", "hours", "hour"]) (b := b_checker_fewest_of (GG tab n)) (fz := true) (E.df 30 (d := d30)) sc_30 fun cdv A outer s H X' hr5 => ?_
  have hr4 := hr5.mono (j := 8 * n + 4) (by omega)
  have hr2 := hr5.mono (j := 8 * n + 2) (by omega)
  have hr1 := hr5.mono (j := 8 * n + 1) (by omega)
  have hr := hr5.mono (j := 8 * n) (by omega)
  exact (ds_cons (ds_parC2 (da_cons de_dsp00 (da_cons (de_lst (da_cons de_int da_nil)) da_nil)) rfl (pg_name (i := 3) nd rfl (by first | exact Or.inl rfl | exact Or.inr rfl)) (pg_name (i := 4) nd rfl (by first | exact Or.inl rfl | exact Or.inr rfl)))
    (ds_cons (ds_while (passes_of rfl) (PW.pt (dw_and (dt_cmp (dop_ne hr.units) (de_var (i := 4)) (de_lst da_nil)) (dw_and1 (dt_cmp (dop_notinK hr.units) (de_var (i := 2)) (de_var (i := 3)))))) (ds_cons (ds_setLc (i := 5) (own := [("found", 6)]) rfl nd (di_keyM (de_call (k := 8 * n) (IH 29 d29 (116, ["clock", "one", "other"]) rfl rfl) hr (E.glo 38) (E.df 29 (d := d29)).kp (bd_29 E) (L2N.takes_of rfl rfl rfl rfl) (da_cons (de_var (i := 0)) (da_cons (de_var (i := 4)) (da_cons (de_var (i := 1)) da_nil))))) (blkOk_by (N := (["clock", "hours", "hour", "counts", "last", "after", "found"] : List Str)) (sc := (defScope (top 46))) (by decide +kernel)) (fun _ _ _ _ _ => pg_name (i := 6) nd rfl (by first | exact Or.inl rfl | exact Or.inr rfl)) (fun _ _ _ _ _ => dts_one (dt_cmp (dop_notinK hr.units) (de_var (i := 6)) (de_var (i := 3)))) (fun _ _ _ _ _ => (de_var (i := 6))) (bdOk1 6))
    (ds_cons (ds_for (passes_of rfl) rfl (di_seq (de_var (i := 5))) (dg_name (i := 6) nd) (ds_one (ds_put hr.units (de_var (i := 3)) (de_var (i := 6)) (de_bin dop_add (de_kidx hr.units (de_var (i := 3)) (de_idx dix (de_var (i := 4)) de_int)) de_int))))
    (ds_one (ds_set (i := 4) (de_var (i := 5)) nd)))))
    (ds_one (ds_ret (de_kget1 hr.units (de_var (i := 3)) (de_var (i := 2)))))))
theorem ok_31 (E : Ev fa fn ts ex w K mg) {n : Nat} (IH : Lev P w K mg base (TT K) fn ids tab n) : FnOk P w K mg base (L2N.CX P w) (8 * (n + 1)) (fA K d31.at_) (fdK K d31.at_) ["row", "hours"] (fnD K (TT K) (GG tab (n + 1) 118)) := by
  have nd := sc_31.nd
  rw [GG_succ (show tab 118 = some (true, 2, 4, b_checker_is_rising_row) from rfl)]
  refine fn_ok (k := 8 * n + 7) (N := ["row", "hours", "k", "hour"]) (ps := ["row", "hours"]) (b := b_checker_is_rising_row (GG tab n)) (fz := true) (E.df 31 (d := d31)) sc_31 fun cdv A outer s H X' hr5 => ?_
  have hr4 := hr5.mono (j := 8 * n + 4) (by omega)
  have hr2 := hr5.mono (j := 8 * n + 2) (by omega)
  have hr1 := hr5.mono (j := 8 * n + 1) (by omega)
  have hr := hr5.mono (j := 8 * n) (by omega)
  exact (ds_cons (ds_for (passes_of rfl) rfl (di_enum (E.free 39) (de_var (i := 0))) (dg_tup rfl (dgs_cons (dg_name (i := 2) nd) (dgs_cons (dg_name (i := 3) nd) dgs_nil)) (lenS (lenS len0))) (ds_one (ds_if (PW.pt (dw_or (dt_not (dt_tru (de_call (k := 8 * n) (IH 20 d20 (107, ["value"]) rfl rfl) hr (E.glo 22) (E.df 20 (d := d20)).kp (bd_20 E) (L2N.takes_of rfl rfl rfl rfl) (da_cons (de_var (i := 3)) da_nil)))) (dw_or (dt_cmp (dop_notin hr.units) (de_var (i := 3)) (de_var (i := 1))) (dw_or1 (PW.pt (dw_and (dt_cmp dop_gt (de_var (i := 2)) de_int) (dw_and1 (dt_cmp dop_lt (de_var (i := 3)) (de_idx dix (de_var (i := 0)) (de_bin dop_sub (de_var (i := 2)) de_int)))))))))) (ds_one (ds_ret de_bl)) ds_nil)))
    (ds_one (ds_ret de_bl)))
theorem ok_32 (E : Ev fa fn ts ex w K mg) {n : Nat} (IH : Lev P w K mg base (TT K) fn ids tab n) : FnOk P w K mg base (L2N.CX P w) (8 * (n + 1)) (fA K d32.at_) (fdK K d32.at_) ["word", "parts", "certificate"] (fnD K (TT K) (GG tab (n + 1) 119)) := by
  have nd := sc_32.nd
  rw [GG_succ (show tab 119 = some (true, 3, 8, b_checker_is_about_hour) from rfl)]
  refine fn_ok (k := 8 * n + 7) (N := ["word", "parts", "certificate", "found", "hour", "clock", "hours", "summand"]) (ps := ["word", "parts", "certificate"]) (b := b_checker_is_about_hour (GG tab n)) (fz := true) (E.df 32 (d := d32)) sc_32 fun cdv A outer s H X' hr5 => ?_
  have hr4 := hr5.mono (j := 8 * n + 4) (by omega)
  have hr2 := hr5.mono (j := 8 * n + 2) (by omega)
  have hr1 := hr5.mono (j := 8 * n + 1) (by omega)
  have hr := hr5.mono (j := 8 * n) (by omega)
  exact (ds_cons (ds_par2 (i := 3) (j := 4) (da_cons (de_call (k := 8 * n) (IH 28 d28 (115, ["text"]) rfl rfl) hr (E.glo 40) (E.df 28 (d := d28)).kp (bd_28 E) (L2N.takes_of rfl rfl rfl rfl) (da_cons (de_idx dix (de_var (i := 1)) de_int) da_nil)) (da_cons (de_idx dix (de_var (i := 1)) de_int) da_nil)) rfl nd rfl rfl (by decide) (by first | rfl | kernel_rfl) (by first | rfl | kernel_rfl) (ps_par rfl nd rfl rfl (by decide) (by first | rfl | kernel_rfl) (by first | rfl | kernel_rfl) (da_cons (de_call (k := 8 * n) (IH 28 d28 (115, ["text"]) rfl rfl) hr (E.glo 40) (E.df 28 (d := d28)).kp (bd_28 E) (L2N.takes_of rfl rfl rfl rfl) (da_cons (de_idx dix (de_var (i := 1)) de_int) da_nil)) (da_cons (de_idx dix (de_var (i := 1)) de_int) da_nil)) (by first | rfl | kernel_rfl)))
    (ds_cons (ds_if (PW.pt (dw_or (dt_cmp dop_is (de_var (i := 3)) de_non) (dw_or1 (dt_not (dt_tru (de_call (k := 8 * n) (IH 21 d21 (108, ["value", "least", "most"]) rfl rfl) hr (E.glo 31) (E.df 21 (d := d21)).kp (bd_21 E) (L2N.takes_of rfl rfl rfl rfl) (da_cons (de_var (i := 4)) (da_cons de_int (da_cons (de_bin dop_sub (de_idx dix (de_var (i := 3)) de_int) de_int) da_nil))))))))) (ds_one (ds_ret de_bl)) ds_nil)
    (ds_cons (ds_asg (de_var (i := 3)) (dg_tup rfl (dgs_cons (dg_name (i := 5) nd) (dgs_cons (dg_name (i := 6) nd) dgs_nil)) (lenS (lenS len0))))
    (ds_cons (ds_if (dt_cmp (dop_eq hr.units) (de_var (i := 0)) de_str) (ds_cons (ds_if (PW.pt (dw_or (dt_not (dt_tru (de_call (k := 8 * n) (IH 21 d21 (108, ["value", "least", "most"]) rfl rfl) hr (E.glo 31) (E.df 21 (d := d21)).kp (bd_21 E) (L2N.takes_of rfl rfl rfl rfl) (da_cons (de_var (i := 2)) (da_cons de_int (da_cons (de_var (i := 5)) da_nil)))))) (dw_or (dt_cmp (dop_ne hr.units) (de_bin dop_mod (de_var (i := 5)) (de_var (i := 2))) de_int) (dw_or1 (dt_cmp (dop_eq hr.units) (de_bin dop_mod (de_var (i := 4)) (de_var (i := 2))) de_int))))) (ds_one (ds_ret de_bl)) ds_nil)
    (ds_one (ds_ret (de_bi (dc_all rfl) (E.free 34) rfl (da_cons (de_lc (own := [("summand", 7)]) rfl nd (di_seq (de_var (i := 6))) (blkOk_by (N := (["word", "parts", "certificate", "found", "hour", "clock", "hours", "summand"] : List Str)) (sc := (defScope (top 48))) (by decide +kernel)) (fun _ _ _ _ _ => pg_name (i := 7) nd rfl (by first | exact Or.inl rfl | exact Or.inr rfl)) (fun _ _ _ _ _ => dts_nil) (fun _ _ _ _ _ => (de_cmp (dop_eq hr.units) (de_bin dop_mod (de_var (i := 7)) (de_var (i := 2))) de_int)) (bdOk1 7)) da_nil))))) ds_nil)
    (ds_cons (ds_if (PW.pt (dw_or (dt_not (dt_tru (de_isi kit_tuple (de_var (i := 2)) (E.free 0) (E.free 23) rfl))) (dw_or1 (dt_not (dt_tru (de_call (k := 8 * n) (IH 21 d21 (108, ["value", "least", "most"]) rfl rfl) hr (E.glo 31) (E.df 21 (d := d21)).kp (bd_21 E) (L2N.takes_of rfl rfl rfl rfl) (da_cons (de_idx dix (de_var (i := 1)) de_int) (da_cons (de_bi dc_len (E.free 24) rfl (da_cons (de_var (i := 2)) da_nil)) (da_cons (de_bi dc_len (E.free 24) rfl (da_cons (de_var (i := 2)) da_nil)) da_nil))))))))) (ds_one (ds_ret de_bl)) ds_nil)
    (ds_cons (ds_if (PW.pt (dw_or (dt_not (dt_tru (de_call (k := 8 * n) (IH 31 d31 (118, ["row", "hours"]) rfl rfl) hr (E.glo 41) (E.df 31 (d := d31)).kp (bd_31 E) (L2N.takes_of rfl rfl rfl rfl) (da_cons (de_var (i := 2)) (da_cons (de_var (i := 6)) da_nil))))) (dw_or1 (dt_cmp (dop_ne hr.units) (de_bin dop_mod (de_bi (dc_sum rfl) (E.free 42) rfl (da_cons (de_var (i := 2)) da_nil)) (de_var (i := 5))) (de_var (i := 4)))))) (ds_one (ds_ret de_bl)) ds_nil)
    (ds_one (ds_ret (de_cmp (dop_eq hr.units) (de_call (k := 8 * n) (IH 30 d30 (117, ["clock", "hours", "hour"]) rfl rfl) hr (E.glo 43) (E.df 30 (d := d30)).kp (bd_30 E) (L2N.takes_of rfl rfl rfl rfl) (da_cons (de_var (i := 5)) (da_cons (de_var (i := 6)) (da_cons (de_var (i := 4)) da_nil)))) (de_bi dc_len (E.free 24) rfl (da_cons (de_var (i := 2)) da_nil)))))))))))
theorem ok_33 (E : Ev fa fn ts ex w K mg) {n : Nat} (IH : Lev P w K mg base (TT K) fn ids tab n) : FnOk P w K mg base (L2N.CX P w) (8 * (n + 1)) (fA K d33.at_) (fdK K d33.at_) ["word", "parts", "certificate"] (fnD K (TT K) (GG tab (n + 1) 120)) := by
  have nd := sc_33.nd
  rw [GG_succ (show tab 120 = some (true, 3, 9, b_checker_is_about_sets) from rfl)]
  refine fn_ok (k := 8 * n + 7) (N := ["word", "parts", "certificate", "found", "part", "pair", "clock", "sets", "is_whole"]) (ps := ["word", "parts", "certificate"]) (b := b_checker_is_about_sets (GG tab n)) (fz := true) (E.df 33 (d := d33)) sc_33 fun cdv A outer s H X' hr5 => ?_
  have hr4 := hr5.mono (j := 8 * n + 4) (by omega)
  have hr2 := hr5.mono (j := 8 * n + 2) (by omega)
  have hr1 := hr5.mono (j := 8 * n + 1) (by omega)
  have hr := hr5.mono (j := 8 * n) (by omega)
  exact (ds_cons (ds_setLc (i := 3) (own := [("part", 4)]) rfl nd (di_seq (de_var (i := 1))) (blkOk_by (N := (["word", "parts", "certificate", "found", "part", "pair", "clock", "sets", "is_whole"] : List Str)) (sc := (defScope (top 49))) (by decide +kernel)) (fun _ _ _ _ _ => pg_name (i := 4) nd rfl (by first | exact Or.inl rfl | exact Or.inr rfl)) (fun _ _ _ _ _ => dts_nil) (fun _ _ _ _ _ => (de_call (k := 8 * n) (IH 28 d28 (115, ["text"]) rfl rfl) hr (E.glo 40) (E.df 28 (d := d28)).kp (bd_28 E) takes0N (da_cons (de_var (i := 4)) da_nil))) (bdOk1 4))
    (ds_cons (ds_if (PW.pt (dw_or (dt_cmp (dop_in hr.units) de_non (de_var (i := 3))) (dw_or1 (dt_cmp dop_gt (de_lensc (own := [("pair", 5)]) rfl nd (E.free 24) (di_seq (de_var (i := 3))) (blkOk_by (N := (["word", "parts", "certificate", "found", "part", "pair", "clock", "sets", "is_whole"] : List Str)) (sc := (defScope (top 49))) (by decide +kernel)) (fun _ _ _ _ _ => pg_name (i := 5) nd rfl (by first | exact Or.inl rfl | exact Or.inr rfl)) (fun _ _ _ _ _ => (de_idx dix (de_var (i := 5)) de_int)) (bdOk1 5)) de_int)))) (ds_one (ds_ret de_bl)) ds_nil)
    (ds_cons (ds_par2 (i := 6) (j := 7) (da_cons (de_idx dix (de_idx dix (de_var (i := 3)) de_int) de_int) (da_cons (de_lc (own := [("pair", 5)]) rfl nd (di_seq (de_var (i := 3))) (blkOk_by (N := (["word", "parts", "certificate", "found", "part", "pair", "clock", "sets", "is_whole"] : List Str)) (sc := (defScope (top 49))) (by decide +kernel)) (fun _ _ _ _ _ => pg_name (i := 5) nd rfl (by first | exact Or.inl rfl | exact Or.inr rfl)) (fun _ _ _ _ _ => dts_nil) (fun _ _ _ _ _ => (de_idx dix (de_var (i := 5)) de_int)) (bdOk1 5)) da_nil)) rfl nd rfl rfl (by decide) (by first | rfl | kernel_rfl) (by first | rfl | kernel_rfl) (ps_par rfl nd rfl rfl (by decide) (by first | rfl | kernel_rfl) (by first | rfl | kernel_rfl) (da_cons (de_idx dix (de_idx dix (de_var (i := 3)) de_int) de_int) (da_cons (de_lc (own := [("pair", 5)]) rfl nd (di_seq (de_var (i := 3))) (blkOk_by (N := (["word", "parts", "certificate", "found", "part", "pair", "clock", "sets", "is_whole"] : List Str)) (sc := (defScope (top 49))) (by decide +kernel)) (fun _ _ _ _ _ => pg_name (i := 5) nd rfl (by first | exact Or.inl rfl | exact Or.inr rfl)) (fun _ _ _ _ _ => dts_nil) (fun _ _ _ _ _ => (de_idx dix (de_var (i := 5)) de_int)) (bdOk1 5)) da_nil)) (by first | rfl | kernel_rfl)))
    (ds_cons (ds_if (dt_cmp (dop_eq hr.units) (de_var (i := 0)) de_str) (ds_one (ds_ret (de_and (de_cmp dop_is (de_var (i := 2)) de_non) (de_one (de_cmp (dop_eq hr.units) (de_ty dc_tuple (E.free 23) rfl (da_cons (de_bi (dc_sortedK rfl) (E.free 44) rfl (da_cons (de_call (k := 8 * n) (IH 29 d29 (116, ["clock", "one", "other"]) rfl rfl) hr (E.glo 38) (E.df 29 (d := d29)).kp (bd_29 E) (L2N.takes_of rfl rfl rfl rfl) (da_cons (de_var (i := 6)) (da_cons (de_idx dix (de_var (i := 7)) de_int) (da_cons (de_idx dix (de_var (i := 7)) de_int) da_nil)))) da_nil)) da_nil)) (de_idx dix (de_var (i := 7)) de_int)))))) ds_nil)
    (ds_cons (ds_if (dt_cmp (dop_eq hr.units) (de_var (i := 0)) de_str) (ds_cons (ds_set (i := 8) (de_chain (dop_eq hr.units) (dop_eq hr.units) (de_bin dop_mul (de_bi dc_len (E.free 24) rfl (da_cons (de_idx dix (de_var (i := 7)) de_int) da_nil)) (de_bi dc_len (E.free 24) rfl (da_cons (de_idx dix (de_var (i := 7)) de_int) da_nil))) (de_var (i := 6)) (de_bi dc_lenK (E.free 24) rfl (da_cons (de_call (k := 8 * n) (IH 29 d29 (116, ["clock", "one", "other"]) rfl rfl) hr (E.glo 38) (E.df 29 (d := d29)).kp (bd_29 E) (L2N.takes_of rfl rfl rfl rfl) (da_cons (de_var (i := 6)) (da_cons (de_idx dix (de_var (i := 7)) de_int) (da_cons (de_idx dix (de_var (i := 7)) de_int) da_nil)))) da_nil))) nd)
    (ds_one (ds_ret (de_and (de_cmp dop_is (de_var (i := 2)) de_non) (de_and (de_var (i := 8)) (de_one (de_cmp (dop_in hr.units) de_int (de_idx dix (de_var (i := 7)) de_int)))))))) ds_nil)
    (ds_cons (ds_if (dt_cmp (dop_eq hr.units) (de_var (i := 0)) de_str) (ds_one (ds_ret (de_call (k := 8 * n) (IH 35 d35 (122, ["clock", "sets", "certificate"]) rfl rfl) hr (E.glo 45) (E.df 35 (d := d35)).kp (bd_35 E) (L2N.takes_of rfl rfl rfl rfl) (da_cons (de_var (i := 6)) (da_cons (de_var (i := 7)) (da_cons (de_var (i := 2)) da_nil)))))) ds_nil)
    (ds_one (ds_ret (de_call (k := 8 * n) (IH 36 d36 (123, ["clock", "sets", "certificate"]) rfl rfl) hr (E.glo 46) (E.df 36 (d := d36)).kp (bd_36 E) (L2N.takes_of rfl rfl rfl rfl) (da_cons (de_var (i := 6)) (da_cons (de_var (i := 7)) (da_cons (de_var (i := 2)) da_nil))))))))))))
theorem ok_34 (E : Ev fa fn ts ex w K mg) {n : Nat} (IH : Lev P w K mg base (TT K) fn ids tab n) : FnOk P w K mg base (L2N.CX P w) (8 * (n + 1)) (fA K d34.at_) (fdK K d34.at_) ["clock", "sets", "hour", "summand"] (fnD K (TT K) (GG tab (n + 1) 121)) := by
  have nd := sc_34.nd
  rw [GG_succ (show tab 121 = some (true, 4, 4, b_checker_is_outside) from rfl)]
  refine fn_ok (k := 8 * n + 7) (N := ["clock", "sets", "hour", "summand"]) (ps := ["clock", "sets", "hour", "summand"]) (b := b_checker_is_outside (GG tab n)) (fz := true) (E.df 34 (d := d34)) sc_34 fun cdv A outer s H X' hr5 => ?_
  have hr4 := hr5.mono (j := 8 * n + 4) (by omega)
  have hr2 := hr5.mono (j := 8 * n + 2) (by omega)
  have hr1 := hr5.mono (j := 8 * n + 1) (by omega)
  have hr := hr5.mono (j := 8 * n) (by omega)
  exact (ds_one (ds_ret (de_and (de_call (k := 8 * n) (IH 20 d20 (107, ["value"]) rfl rfl) hr (E.glo 22) (E.df 20 (d := d20)).kp (bd_20 E) (L2N.takes_of rfl rfl rfl rfl) (da_cons (de_var (i := 3)) da_nil)) (de_and (de_cmp (dop_in hr.units) (de_var (i := 3)) (de_idx dix (de_var (i := 1)) de_int)) (de_one (de_cmp (dop_notin hr.units) (de_bin dop_mod (de_bin dop_add (de_var (i := 2)) (de_var (i := 3))) (de_var (i := 0))) (de_idx dix (de_var (i := 1)) de_int)))))))
theorem ok_35 (E : Ev fa fn ts ex w K mg) {n : Nat} (IH : Lev P w K mg base (TT K) fn ids tab n) : FnOk P w K mg base (L2N.CX P w) (8 * (n + 1)) (fA K d35.at_) (fdK K d35.at_) ["clock", "sets", "certificate"] (fnD K (TT K) (GG tab (n + 1) 122)) := by
  have nd := sc_35.nd
  rw [GG_succ (show tab 122 = some (true, 3, 7, b_checker_is_greatest) from rfl)]
  refine fn_ok (k := 8 * n + 7) (N := ["clock", "sets", "certificate", "found", "rest", "hour", "summand"]) (ps := ["clock", "sets", "certificate"]) (b := b_checker_is_greatest (GG tab n)) (fz := true) (E.df 35 (d := d35)) sc_35 fun cdv A outer s H X' hr5 => ?_
  have hr4 := hr5.mono (j := 8 * n + 4) (by omega)
  have hr2 := hr5.mono (j := 8 * n + 2) (by omega)
  have hr1 := hr5.mono (j := 8 * n + 1) (by omega)
  have hr := hr5.mono (j := 8 * n) (by omega)
  exact (ds_cons (ds_if (dt_tru (de_bi (dc_any rfl) (E.free 47) rfl (da_cons (de_lc (own := [("found", 3)]) rfl nd (di_keyM (de_call (k := 8 * n) (IH 29 d29 (116, ["clock", "one", "other"]) rfl rfl) hr (E.glo 38) (E.df 29 (d := d29)).kp (bd_29 E) (L2N.takes_of rfl rfl rfl rfl) (da_cons (de_var (i := 0)) (da_cons (de_idx dix (de_var (i := 1)) de_int) (da_cons (de_idx dix (de_var (i := 1)) de_int) da_nil))))) (blkOk_by (N := (["clock", "sets", "certificate", "found", "rest", "hour", "summand"] : List Str)) (sc := (defScope (top 51))) (by decide +kernel)) (fun _ _ _ _ _ => pg_name (i := 3) nd rfl (by first | exact Or.inl rfl | exact Or.inr rfl)) (fun _ _ _ _ _ => dts_nil) (fun _ _ _ _ _ => (de_cmp (dop_notin hr.units) (de_var (i := 3)) (de_idx dix (de_var (i := 1)) de_int))) (bdOk1 3)) da_nil))) (ds_one (ds_ret de_bl)) ds_nil)
    (ds_cons (ds_setLc (i := 4) (own := [("hour", 5)]) rfl nd (di_range1 (E.free 48) (de_var (i := 0))) (blkOk_by (N := (["clock", "sets", "certificate", "found", "rest", "hour", "summand"] : List Str)) (sc := (defScope (top 51))) (by decide +kernel)) (fun _ _ _ _ _ => pg_name (i := 5) nd rfl (by first | exact Or.inl rfl | exact Or.inr rfl)) (fun _ _ _ _ _ => dts_one (dt_cmp (dop_notin hr.units) (de_var (i := 5)) (de_idx dix (de_var (i := 1)) de_int))) (fun _ _ _ _ _ => (de_var (i := 5))) (bdOk1 5))
    (ds_cons (ds_if (PW.pt (dw_or (dt_not (dt_tru (de_isi kit_tuple (de_var (i := 2)) (E.free 0) (E.free 23) rfl))) (dw_or1 (dt_cmp (dop_ne hr.units) (de_bi dc_len (E.free 24) rfl (da_cons (de_var (i := 2)) da_nil)) (de_bi dc_len (E.free 24) rfl (da_cons (de_var (i := 4)) da_nil)))))) (ds_one (ds_ret de_bl)) ds_nil)
    (ds_one (ds_ret (de_bi (dc_all rfl) (E.free 34) rfl (da_cons (de_lc (own := [("hour", 5), ("summand", 6)]) rfl nd (di_zip (E.free 49) (de_var (i := 4)) (de_var (i := 2))) (blkOk_by (N := (["clock", "sets", "certificate", "found", "rest", "hour", "summand"] : List Str)) (sc := (defScope (top 51))) (by decide +kernel)) (fun _ _ _ _ _ => pg_tup rfl (pgs_cons (pg_name (i := 5) nd rfl (by first | exact Or.inl rfl | exact Or.inr rfl)) (pgs_cons (pg_name (i := 6) nd rfl (by first | exact Or.inl rfl | exact Or.inr rfl)) pgs_nil))) (fun _ _ _ _ _ => dts_nil) (fun _ _ _ _ _ => (de_call (k := 8 * n) (IH 34 d34 (121, ["clock", "sets", "hour", "summand"]) rfl rfl) hr (E.glo 50) (E.df 34 (d := d34)).kp (bd_34 E) takes0N (da_cons (de_var (i := 0)) (da_cons (de_var (i := 1)) (da_cons (de_var (i := 5)) (da_cons (de_var (i := 6)) da_nil)))))) (bdOk2 (i := 5) (j := 6) (by decide))) da_nil)))))))
theorem ok_36 (E : Ev fa fn ts ex w K mg) {n : Nat} (IH : Lev P w K mg base (TT K) fn ids tab n) : FnOk P w K mg base (L2N.CX P w) (8 * (n + 1)) (fA K d36.at_) (fdK K d36.at_) ["clock", "sets", "certificate"] (fnD K (TT K) (GG tab (n + 1) 123)) := by
  have nd := sc_36.nd
  rw [GG_succ (show tab 123 = some (true, 3, 7, b_checker_is_unsolved) from rfl)]
  refine fn_ok (k := 8 * n + 7) (N := ["clock", "sets", "certificate", "hour", "row", "first", "summand"]) (ps := ["clock", "sets", "certificate"]) (b := b_checker_is_unsolved (GG tab n)) (fz := true) (E.df 36 (d := d36)) sc_36 fun cdv A outer s H X' hr5 => ?_
  have hr4 := hr5.mono (j := 8 * n + 4) (by omega)
  have hr2 := hr5.mono (j := 8 * n + 2) (by omega)
  have hr1 := hr5.mono (j := 8 * n + 1) (by omega)
  have hr := hr5.mono (j := 8 * n) (by omega)
  exact (ds_cons (ds_if (PW.pt (dw_or (dt_not (dt_tru (de_isi kit_tuple (de_var (i := 2)) (E.free 0) (E.free 23) rfl))) (dw_or1 (dt_cmp (dop_ne hr.units) (de_bi dc_len (E.free 24) rfl (da_cons (de_var (i := 2)) da_nil)) de_int)))) (ds_one (ds_ret de_bl)) ds_nil)
    (ds_cons (ds_asg (de_var (i := 2)) (dg_tup rfl (dgs_cons (dg_name (i := 3) nd) (dgs_cons (dg_name (i := 4) nd) dgs_nil)) (lenS (lenS len0))))
    (ds_cons (ds_if (PW.pt (dw_or (dt_not (dt_tru (de_call (k := 8 * n) (IH 20 d20 (107, ["value"]) rfl rfl) hr (E.glo 22) (E.df 20 (d := d20)).kp (bd_20 E) (L2N.takes_of rfl rfl rfl rfl) (da_cons (de_var (i := 3)) da_nil)))) (dw_or (dt_cmp (dop_notin hr.units) (de_var (i := 3)) (de_idx dix (de_var (i := 1)) de_int)) (dw_or (dt_not (dt_tru (de_isi kit_tuple (de_var (i := 4)) (E.free 0) (E.free 23) rfl))) (dw_or1 (dt_cmp (dop_ne hr.units) (de_bi dc_len (E.free 24) rfl (da_cons (de_var (i := 4)) da_nil)) (de_bi dc_len (E.free 24) rfl (da_cons (de_idx dix (de_var (i := 1)) de_int) da_nil)))))))) (ds_one (ds_ret de_bl)) ds_nil)
    (ds_one (ds_ret (de_bi (dc_all rfl) (E.free 34) rfl (da_cons (de_lc (own := [("first", 5), ("summand", 6)]) rfl nd (di_zip (E.free 49) (de_idx dix (de_var (i := 1)) de_int) (de_var (i := 4))) (blkOk_by (N := (["clock", "sets", "certificate", "hour", "row", "first", "summand"] : List Str)) (sc := (defScope (top 52))) (by decide +kernel)) (fun _ _ _ _ _ => pg_tup rfl (pgs_cons (pg_name (i := 5) nd rfl (by first | exact Or.inl rfl | exact Or.inr rfl)) (pgs_cons (pg_name (i := 6) nd rfl (by first | exact Or.inl rfl | exact Or.inr rfl)) pgs_nil))) (fun _ _ _ _ _ => dts_nil) (fun _ _ _ _ _ => (de_call (k := 8 * n) (IH 34 d34 (121, ["clock", "sets", "hour", "summand"]) rfl rfl) hr (E.glo 50) (E.df 34 (d := d34)).kp (bd_34 E) takes0N (da_cons (de_var (i := 0)) (da_cons (de_var (i := 1)) (da_cons (de_bin dop_sub (de_var (i := 3)) (de_var (i := 5))) (da_cons (de_var (i := 6)) da_nil)))))) (bdOk2 (i := 5) (j := 6) (by decide))) da_nil)))))))
theorem ok_37 (E : Ev fa fn ts ex w K mg) {n : Nat} (IH : Lev P w K mg base (TT K) fn ids tab n) : FnOk P w K mg base (L2N.CX P w) (8 * (n + 1)) (fA K d37.at_) (fdK K d37.at_) ["script", "k"] (fnD K (TT K) (GG tab (n + 1) 1000)) := by
  have nd := sc_37.nd
  rw [GG_succ (show tab 1000 = some (false, 2, 6, b_law_law_well) from rfl)]
  refine fn_ok (k := 8 * n + 7) (N := ["script", "k", "cell", "mixed", "each", "more"]) (ps := ["script", "k"]) (b := b_law_law_well (GG tab n)) (fz := false) (E.df 37 (d := d37)) sc_37 fun cdv A outer s H X' hr5 => ?_
  have hr4 := hr5.mono (j := 8 * n + 4) (by omega)
  have hr2 := hr5.mono (j := 8 * n + 2) (by omega)
  have hr1 := hr5.mono (j := 8 * n + 1) (by omega)
  have hr := hr5.mono (j := 8 * n) (by omega)
  exact (ds_cons (ds_set (i := 2) (de_if (dt_cmp dop_lt (de_var (i := 1)) (de_bi dc_len (E.free 24) rfl (da_cons (de_var (i := 0)) da_nil))) (de_ty dc_int (E.free 1) rfl (da_cons (de_idx dix (de_var (i := 0)) (de_var (i := 1))) da_nil)) (de_bin dop_add (de_bin dop_mul de_int (de_var (i := 1))) de_int)) nd)
    (ds_cons (ds_set (i := 3) (de_bin dop_add de_int (de_bin dop_mul de_int (de_var (i := 1)))) nd)
    (ds_cons (ds_for (passes_of rfl) rfl (di_seq (de_bin dop_add (de_sl (de_var (i := 0)) do_none (do_some de_int)) (de_lst (da_cons (de_var (i := 2)) da_nil)))) (dg_name (i := 4) nd) (ds_cons (ds_set (i := 5) (de_bin dop_add (de_bin dop_mod (de_ty dc_int (E.free 1) rfl (da_cons (de_var (i := 4)) da_nil)) de_int) (de_ty dc_int (E.free 1) rfl (da_cons (de_cmp dop_lt (de_var (i := 4)) de_int) da_nil))) nd)
    (ds_one (ds_set (i := 3) (de_bin dop_mod (de_ty dc_int (E.free 1) rfl (da_cons (de_bin dop_add (de_bin dop_mul (de_var (i := 3)) de_int) (de_var (i := 5))) da_nil)) de_int) nd))))
    (ds_one (ds_ret (de_mut (da_cons (de_if (dt_cmp dop_ge (de_bi dc_abs (E.free 51) rfl (da_cons (de_var (i := 2)) da_nil)) (de_bin dop_pow de_int de_int)) (de_bi dc_abs (E.free 51) rfl (da_cons (de_var (i := 2)) da_nil)) de_int) (da_cons (de_var (i := 3)) (da_cons de_int da_nil)))))))))
theorem ok_38 (E : Ev fa fn ts ex w K mg) {n : Nat} (IH : Lev P w K mg base (TT K) fn ids tab n) : FnOk P w K mg base (L2N.CX P w) (8 * (n + 1)) (fA K d38.at_) (fdK K d38.at_) ["well", "many"] (fnD K (TT K) (GG tab (n + 1) 1001)) := by
  have nd := sc_38.nd
  rw [GG_succ (show tab 1001 = some (true, 2, 4, b_law_law_draw) from rfl)]
  refine fn_ok (k := 8 * n + 7) (N := ["well", "many", "digit", "more"]) (ps := ["well", "many"]) (b := b_law_law_draw (GG tab n)) (fz := true) (E.df 38 (d := d38)) sc_38 fun cdv A outer s H X' hr5 => ?_
  have hr4 := hr5.mono (j := 8 * n + 4) (by omega)
  have hr2 := hr5.mono (j := 8 * n + 2) (by omega)
  have hr1 := hr5.mono (j := 8 * n + 1) (by omega)
  have hr := hr5.mono (j := 8 * n) (by omega)
  exact (ds_cons (ds_if (dt_cmp dop_gt (de_idx dix (de_var (i := 0)) de_int) de_int) (ds_cons (ds_set (i := 2) (de_bin dop_mod (de_ty dc_int (E.free 1) rfl (da_cons (de_idx dix (de_var (i := 0)) de_int) da_nil)) (de_var (i := 1))) nd)
    (ds_cons (ds_asg (de_bin dop_fdiv (de_idx dix (de_var (i := 0)) de_int) (de_var (i := 1))) (dg_sub (W := W0) (de_var (i := 0)) de_int))
    (ds_one (ds_ret (de_var (i := 2)))))) ds_nil)
    (ds_cons (ds_asg (de_bin dop_add (de_idx dix (de_var (i := 0)) de_int) de_int) (dg_sub (W := W0) (de_var (i := 0)) de_int))
    (ds_cons (ds_set (i := 3) (de_ty dc_int (E.free 1) rfl (da_cons (de_bin dop_add (de_bin dop_mul (de_idx dix (de_var (i := 0)) de_int) de_int) de_int) da_nil)) nd)
    (ds_cons (ds_asg (de_bin dop_mod (de_ty dc_int (E.free 1) rfl (da_cons (de_bin dop_add (de_bin dop_mul (de_idx dix (de_var (i := 0)) de_int) de_int) (de_var (i := 3))) da_nil)) de_int) (dg_sub (W := W0) (de_var (i := 0)) de_int))
    (ds_one (ds_ret (de_bin dop_mod (de_ty dc_int (E.free 1) rfl (da_cons (de_bin dop_fdiv (de_idx dix (de_var (i := 0)) de_int) de_int) da_nil)) (de_var (i := 1)))))))))
theorem ok_39 (E : Ev fa fn ts ex w K mg) {n : Nat} (IH : Lev P w K mg base (TT K) fn ids tab n) : FnOk P w K mg base (L2N.CX P w) (8 * (n + 1)) (fA K d39.at_) (fdK K d39.at_) ["value", "least", "most"] (fnD K (TT K) (GG tab (n + 1) 1002)) := by
  have nd := sc_39.nd
  rw [GG_succ (show tab 1002 = some (true, 3, 3, b_law_law_is) from rfl)]
  refine fn_ok (k := 8 * n + 7) (N := ["value", "least", "most"]) (ps := ["value", "least", "most"]) (b := b_law_law_is (GG tab n)) (fz := true) (E.df 39 (d := d39)) sc_39 fun cdv A outer s H X' hr5 => ?_
  have hr4 := hr5.mono (j := 8 * n + 4) (by omega)
  have hr2 := hr5.mono (j := 8 * n + 2) (by omega)
  have hr1 := hr5.mono (j := 8 * n + 1) (by omega)
  have hr := hr5.mono (j := 8 * n) (by omega)
  exact (ds_one (ds_ret (de_and (de_isi kit_int (de_var (i := 0)) (E.free 0) (E.free 1) rfl) (de_and (de_not (de_isi kit_bool (de_var (i := 0)) (E.free 0) (E.free 2) rfl)) (de_and (de_cmp dop_le (de_var (i := 1)) (de_var (i := 0))) (de_one (de_cmp dop_le (de_var (i := 0)) (de_var (i := 2)))))))))
theorem ok_40 (E : Ev fa fn ts ex w K mg) {n : Nat} (IH : Lev P w K mg base (TT K) fn ids tab n) : FnOk P w K mg base (L2N.CX P w) (8 * (n + 1)) (fA K d40.at_) (fdK K d40.at_) ["number"] (fnD K (TT K) (GG tab (n + 1) 1003)) := by
  have nd := sc_40.nd
  rw [GG_succ (show tab 1003 = some (true, 1, 3, b_law_law_divisors) from rfl)]
  refine fn_ok (k := 8 * n + 7) (N := ["number", "found", "one"]) (ps := ["number"]) (b := b_law_law_divisors (GG tab n)) (fz := true) (E.df 40 (d := d40)) sc_40 fun cdv A outer s H X' hr5 => ?_
  have hr4 := hr5.mono (j := 8 * n + 4) (by omega)
  have hr2 := hr5.mono (j := 8 * n + 2) (by omega)
  have hr1 := hr5.mono (j := 8 * n + 1) (by omega)
  have hr := hr5.mono (j := 8 * n) (by omega)
  exact (ds_cons (ds_set (i := 1) (de_lst da_nil) nd)
    (ds_cons (ds_for (passes_of rfl) rfl (di_range2 (E.free 48) de_int de_int) (dg_name (i := 2) nd) (ds_cons (ds_if (dt_cmp dop_gt (de_bin dop_mul (de_var (i := 2)) (de_var (i := 2))) (de_var (i := 0))) (ds_one ds_brk) ds_nil)
    (ds_one (ds_if (dt_cmp (dop_eq hr.units) (de_bin dop_mod (de_ty dc_int (E.free 1) rfl (da_cons (de_var (i := 0)) da_nil)) (de_var (i := 2))) de_int) (ds_one (ds_set (i := 1) (de_bin dop_add (de_var (i := 1)) (de_lst (da_cons (de_var (i := 2)) (da_cons (de_bin dop_fdiv (de_var (i := 0)) (de_var (i := 2))) da_nil)))) nd)) ds_nil))))
    (ds_one (ds_ret (de_srtset rfl (E.free 44) (E.free 52) (de_var (i := 1)))))))
theorem ok_41 (E : Ev fa fn ts ex w K mg) {n : Nat} (IH : Lev P w K mg base (TT K) fn ids tab n) : FnOk P w K mg base (L2N.CX P w) (8 * (n + 1)) (fA K d41.at_) (fdK K d41.at_) ["well", "k"] (fnD K (TT K) (GG tab (n + 1) 1004)) := by
  have nd := sc_41.nd
  rw [GG_succ (show tab 1004 = some (true, 2, 6, b_law_law_some_great) from rfl)]
  refine fn_ok (k := 8 * n + 7) (N := ["well", "k", "form", "found", "turn", "prime"]) (ps := ["well", "k"]) (b := b_law_law_some_great (GG tab n)) (fz := true) (E.df 41 (d := d41)) sc_41 fun cdv A outer s H X' hr5 => ?_
  have hr4 := hr5.mono (j := 8 * n + 4) (by omega)
  have hr2 := hr5.mono (j := 8 * n + 2) (by omega)
  have hr1 := hr5.mono (j := 8 * n + 1) (by omega)
  have hr := hr5.mono (j := 8 * n) (by omega)
  exact (ds_cons (ds_set (i := 2) (de_call (k := 8 * n) (IH 38 d38 (1001, ["well", "many"]) rfl rfl) hr (E.glo 53) (E.df 38 (d := d38)).kp (bd_38 E) (L2N.takes_of rfl rfl rfl rfl) (da_cons (de_var (i := 0)) (da_cons de_int da_nil))) nd)
    (ds_cons (ds_if (PW.pt (dw_and (dt_cmp (dop_eq hr.units) (de_var (i := 2)) de_int) (dw_and1 (dt_cmp (dop_eq hr.units) (de_var (i := 1)) de_int)))) (ds_one (ds_ret (de_bin dop_add de_int (de_call (k := 8 * n) (IH 38 d38 (1001, ["well", "many"]) rfl rfl) hr (E.glo 53) (E.df 38 (d := d38)).kp (bd_38 E) (L2N.takes_of rfl rfl rfl rfl) (da_cons (de_var (i := 0)) (da_cons (de_bin dop_pow de_int de_int) da_nil)))))) ds_nil)
    (ds_cons (ds_if (PW.pt (dw_and (dt_cmp (dop_eq hr.units) (de_var (i := 2)) de_int) (dw_and1 (dt_cmp (dop_eq hr.units) (de_var (i := 1)) de_int)))) (ds_one (ds_ret (de_idx dix (de_lst (da_cons (de_bin dop_pow de_int de_int) (da_cons de_int (da_cons de_int (da_cons de_int (da_cons de_int (da_cons de_int (da_cons de_int (da_cons de_int da_nil))))))))) (de_call (k := 8 * n) (IH 38 d38 (1001, ["well", "many"]) rfl rfl) hr (E.glo 53) (E.df 38 (d := d38)).kp (bd_38 E) (L2N.takes_of rfl rfl rfl rfl) (da_cons (de_var (i := 0)) (da_cons de_int da_nil)))))) ds_nil)
    (ds_cons (ds_set (i := 3) (de_bin dop_add de_int (de_call (k := 8 * n) (IH 38 d38 (1001, ["well", "many"]) rfl rfl) hr (E.glo 53) (E.df 38 (d := d38)).kp (bd_38 E) (L2N.takes_of rfl rfl rfl rfl) (da_cons (de_var (i := 0)) (da_cons (de_idx dix (de_lst (da_cons de_int (da_cons de_int (da_cons de_int da_nil)))) (de_call (k := 8 * n) (IH 38 d38 (1001, ["well", "many"]) rfl rfl) hr (E.glo 53) (E.df 38 (d := d38)).kp (bd_38 E) (L2N.takes_of rfl rfl rfl rfl) (da_cons (de_var (i := 0)) (da_cons de_int da_nil)))) da_nil)))) nd)
    (ds_cons (ds_for (passes_of rfl) rfl (di_range1 (E.free 48) (de_var (i := 2))) (dg_name (i := 4) nd) (ds_cons (ds_set (i := 5) (de_idx dix (de_lst (da_cons de_int (da_cons de_int (da_cons de_int (da_cons de_int (da_cons de_int (da_cons de_int da_nil))))))) (de_call (k := 8 * n) (IH 38 d38 (1001, ["well", "many"]) rfl rfl) hr (E.glo 53) (E.df 38 (d := d38)).kp (bd_38 E) (L2N.takes_of rfl rfl rfl rfl) (da_cons (de_var (i := 0)) (da_cons de_int da_nil)))) nd)
    (ds_one (ds_if (dt_cmp dop_le (de_bin dop_mul (de_var (i := 3)) (de_var (i := 5))) de_int) (ds_one (ds_set (i := 3) (de_bin dop_mul (de_var (i := 3)) (de_var (i := 5))) nd)) ds_nil))))
    (ds_one (ds_ret (de_var (i := 3)))))))))
theorem ok_42 (E : Ev fa fn ts ex w K mg) {n : Nat} (IH : Lev P w K mg base (TT K) fn ids tab n) : FnOk P w K mg base (L2N.CX P w) (8 * (n + 1)) (fA K d42.at_) (fdK K d42.at_) ["well", "many", "divisors"] (fnD K (TT K) (GG tab (n + 1) 1005)) := by
  have nd := sc_42.nd
  rw [GG_succ (show tab 1005 = some (true, 3, 6, b_law_law_some_size) from rfl)]
  refine fn_ok (k := 8 * n + 7) (N := ["well", "many", "divisors", "form", "step", "found"]) (ps := ["well", "many", "divisors"]) (b := b_law_law_some_size (GG tab n)) (fz := true) (E.df 42 (d := d42)) sc_42 fun cdv A outer s H X' hr5 => ?_
  have hr4 := hr5.mono (j := 8 * n + 4) (by omega)
  have hr2 := hr5.mono (j := 8 * n + 2) (by omega)
  have hr1 := hr5.mono (j := 8 * n + 1) (by omega)
  have hr := hr5.mono (j := 8 * n) (by omega)
  exact (ds_cons (ds_set (i := 3) (de_call (k := 8 * n) (IH 38 d38 (1001, ["well", "many"]) rfl rfl) hr (E.glo 53) (E.df 38 (d := d38)).kp (bd_38 E) (L2N.takes_of rfl rfl rfl rfl) (da_cons (de_var (i := 0)) (da_cons de_int da_nil))) nd)
    (ds_cons (ds_if (dt_cmp (dop_eq hr.units) (de_var (i := 3)) de_int) (ds_one (ds_ret (de_bin dop_add de_int (de_call (k := 8 * n) (IH 38 d38 (1001, ["well", "many"]) rfl rfl) hr (E.glo 53) (E.df 38 (d := d38)).kp (bd_38 E) (L2N.takes_of rfl rfl rfl rfl) (da_cons (de_var (i := 0)) (da_cons (de_var (i := 1)) da_nil)))))) ds_nil)
    (ds_cons (ds_if (dt_cmp (dop_eq hr.units) (de_var (i := 3)) de_int) (ds_one (ds_ret (de_bi (dc_min2 rfl) (E.free 10) rfl (da_cons (de_var (i := 1)) (da_cons (de_bin dop_add de_int (de_call (k := 8 * n) (IH 38 d38 (1001, ["well", "many"]) rfl rfl) hr (E.glo 53) (E.df 38 (d := d38)).kp (bd_38 E) (L2N.takes_of rfl rfl rfl rfl) (da_cons (de_var (i := 0)) (da_cons de_int da_nil)))) da_nil))))) ds_nil)
    (ds_cons (ds_set (i := 4) (de_idx dix (de_var (i := 2)) (de_call (k := 8 * n) (IH 38 d38 (1001, ["well", "many"]) rfl rfl) hr (E.glo 53) (E.df 38 (d := d38)).kp (bd_38 E) (L2N.takes_of rfl rfl rfl rfl) (da_cons (de_var (i := 0)) (da_cons (de_bi dc_len (E.free 24) rfl (da_cons (de_var (i := 2)) da_nil)) da_nil)))) nd)
    (ds_cons (ds_set (i := 5) (de_bin dop_mul (de_var (i := 4)) (de_bin dop_add de_int (de_call (k := 8 * n) (IH 38 d38 (1001, ["well", "many"]) rfl rfl) hr (E.glo 53) (E.df 38 (d := d38)).kp (bd_38 E) (L2N.takes_of rfl rfl rfl rfl) (da_cons (de_var (i := 0)) (da_cons (de_bi (dc_min2 rfl) (E.free 10) rfl (da_cons de_int (da_cons (de_bin dop_fdiv (de_var (i := 1)) (de_var (i := 4))) da_nil))) da_nil))))) nd)
    (ds_cons (ds_if (dt_cmp (dop_eq hr.units) (de_var (i := 3)) de_int) (ds_one (ds_set (i := 5) (de_bin dop_sub (de_bin dop_add (de_var (i := 5)) (de_call (k := 8 * n) (IH 38 d38 (1001, ["well", "many"]) rfl rfl) hr (E.glo 53) (E.df 38 (d := d38)).kp (bd_38 E) (L2N.takes_of rfl rfl rfl rfl) (da_cons (de_var (i := 0)) (da_cons de_int da_nil)))) de_int) nd)) ds_nil)
    (ds_one (ds_ret (de_bi (dc_min2 rfl) (E.free 10) rfl (da_cons (de_var (i := 1)) (da_cons (de_bi (dc_max2 rfl) (E.free 54) rfl (da_cons de_int (da_cons (de_var (i := 5)) da_nil))) da_nil)))))))))))
theorem ok_43 (E : Ev fa fn ts ex w K mg) {n : Nat} (IH : Lev P w K mg base (TT K) fn ids tab n) : FnOk P w K mg base (L2N.CX P w) (8 * (n + 1)) (fA K d43.at_) (fdK K d43.at_) ["well", "least"] (fnD K (TT K) (GG tab (n + 1) 1006)) := by
  have nd := sc_43.nd
  rw [GG_succ (show tab 1006 = some (true, 2, 5, b_law_law_some_times) from rfl)]
  refine fn_ok (k := 8 * n + 7) (N := ["well", "least", "form", "found", "turn"]) (ps := ["well", "least"]) (b := b_law_law_some_times (GG tab n)) (fz := true) (E.df 43 (d := d43)) sc_43 fun cdv A outer s H X' hr5 => ?_
  have hr4 := hr5.mono (j := 8 * n + 4) (by omega)
  have hr2 := hr5.mono (j := 8 * n + 2) (by omega)
  have hr1 := hr5.mono (j := 8 * n + 1) (by omega)
  have hr := hr5.mono (j := 8 * n) (by omega)
  exact (ds_cons (ds_par2 (i := 2) (j := 3) (da_cons (de_call (k := 8 * n) (IH 38 d38 (1001, ["well", "many"]) rfl rfl) hr (E.glo 53) (E.df 38 (d := d38)).kp (bd_38 E) (L2N.takes_of rfl rfl rfl rfl) (da_cons (de_var (i := 0)) (da_cons de_int da_nil))) (da_cons de_int da_nil)) rfl nd rfl rfl (by decide) (by first | rfl | kernel_rfl) (by first | rfl | kernel_rfl) (ps_par rfl nd rfl rfl (by decide) (by first | rfl | kernel_rfl) (by first | rfl | kernel_rfl) (da_cons (de_call (k := 8 * n) (IH 38 d38 (1001, ["well", "many"]) rfl rfl) hr (E.glo 53) (E.df 38 (d := d38)).kp (bd_38 E) (L2N.takes_of rfl rfl rfl rfl) (da_cons (de_var (i := 0)) (da_cons de_int da_nil))) (da_cons de_int da_nil)) (by first | rfl | kernel_rfl)))
    (ds_cons (ds_for (passes_of rfl) rfl (di_range1 (E.free 48) de_int) (dg_name (i := 4) nd) (ds_one (ds_set (i := 3) (de_bin dop_add (de_bin dop_mul (de_var (i := 3)) (de_bin dop_pow de_int de_int)) (de_call (k := 8 * n) (IH 38 d38 (1001, ["well", "many"]) rfl rfl) hr (E.glo 53) (E.df 38 (d := d38)).kp (bd_38 E) (L2N.takes_of rfl rfl rfl rfl) (da_cons (de_var (i := 0)) (da_cons (de_bin dop_pow de_int de_int) da_nil)))) nd)))
    (ds_cons (ds_if (dt_cmp dop_lt (de_var (i := 2)) de_int) (ds_one (ds_ret (de_bin dop_add (de_var (i := 1)) (de_bin dop_mod (de_ty dc_int (E.free 1) rfl (da_cons (de_var (i := 3)) da_nil)) (de_idx dix (de_lst (da_cons de_int (da_cons de_int (da_cons (de_bin dop_pow de_int de_int) da_nil)))) (de_var (i := 2))))))) ds_nil)
    (ds_one (ds_ret (de_if (dt_cmp (dop_eq hr.units) (de_var (i := 2)) de_int) (de_bin dop_sub (de_bin dop_pow de_int de_int) (de_bin dop_mod (de_ty dc_int (E.free 1) rfl (da_cons (de_var (i := 3)) da_nil)) de_int)) (de_bi (dc_max2 rfl) (E.free 54) rfl (da_cons (de_var (i := 1)) (da_cons (de_bin dop_mod (de_ty dc_int (E.free 1) rfl (da_cons (de_var (i := 3)) da_nil)) (de_bin dop_add (de_bin dop_pow de_int de_int) de_int)) da_nil)))))))))
theorem ok_44 (E : Ev fa fn ts ex w K mg) {n : Nat} (IH : Lev P w K mg base (TT K) fn ids tab n) : FnOk P w K mg base (L2N.CX P w) (8 * (n + 1)) (fA K d44.at_) (fdK K d44.at_) ["told", "due"] (fnD K (TT K) (GG tab (n + 1) 1007)) := by
  have nd := sc_44.nd
  rw [GG_succ (show tab 1007 = some (true, 2, 3, b_law_law_same) from rfl)]
  refine fn_ok (k := 8 * n + 7) (N := ["told", "due", "k"]) (ps := ["told", "due"]) (b := b_law_law_same (GG tab n)) (fz := true) (E.df 44 (d := d44)) sc_44 fun cdv A outer s H X' hr5 => ?_
  have hr4 := hr5.mono (j := 8 * n + 4) (by omega)
  have hr2 := hr5.mono (j := 8 * n + 2) (by omega)
  have hr1 := hr5.mono (j := 8 * n + 1) (by omega)
  have hr := hr5.mono (j := 8 * n) (by omega)
  exact (ds_cons (ds_if (PW.pt (dw_or (dt_not (dt_tru (de_isi kit_tuple (de_var (i := 0)) (E.free 0) (E.free 23) rfl))) (dw_or1 (dt_cmp (dop_ne hr.units) (de_bi dc_len (E.free 24) rfl (da_cons (de_var (i := 0)) da_nil)) (de_bi dc_len (E.free 24) rfl (da_cons (de_var (i := 1)) da_nil)))))) (ds_one (ds_ret de_bl)) ds_nil)
    (ds_cons (ds_for (passes_of rfl) rfl (di_range1 (E.free 48) (de_bi dc_len (E.free 24) rfl (da_cons (de_var (i := 1)) da_nil))) (dg_name (i := 2) nd) (ds_one (ds_if (PW.pt (dw_or (dt_tru (de_isi kit_bool (de_idx dix (de_var (i := 0)) (de_var (i := 2))) (E.free 0) (E.free 2) rfl)) (dw_or (dt_not (dt_tru (de_isi2 kit_int kit_str (de_idx dix (de_var (i := 0)) (de_var (i := 2))) (E.free 0) (E.free 1) (E.free 25) rfl rfl))) (dw_or1 (dt_cmp (dop_ne hr.units) (de_idx dix (de_var (i := 0)) (de_var (i := 2))) (de_idx dix (de_var (i := 1)) (de_var (i := 2)))))))) (ds_one (ds_ret de_bl)) ds_nil)))
    (ds_one (ds_ret de_bl))))
theorem ok_45 (E : Ev fa fn ts ex w K mg) {n : Nat} (IH : Lev P w K mg base (TT K) fn ids tab n) : FnOk P w K mg base (L2N.CX P w) (8 * (n + 1)) (fA K d45.at_) (fdK K d45.at_) ["made", "due"] (fnD K (TT K) (GG tab (n + 1) 1008)) := by
  have nd := sc_45.nd
  rw [GG_succ (show tab 1008 = some (true, 2, 2, b_law_law_is_pair) from rfl)]
  refine fn_ok (k := 8 * n + 7) (N := ["made", "due"]) (ps := ["made", "due"]) (b := b_law_law_is_pair (GG tab n)) (fz := true) (E.df 45 (d := d45)) sc_45 fun cdv A outer s H X' hr5 => ?_
  have hr4 := hr5.mono (j := 8 * n + 4) (by omega)
  have hr2 := hr5.mono (j := 8 * n + 2) (by omega)
  have hr1 := hr5.mono (j := 8 * n + 1) (by omega)
  have hr := hr5.mono (j := 8 * n) (by omega)
  exact (ds_cons (ds_if (PW.pt (dw_or (dt_not (dt_tru (de_isi kit_tuple (de_var (i := 0)) (E.free 0) (E.free 23) rfl))) (dw_or (dt_cmp (dop_ne hr.units) (de_bi dc_len (E.free 24) rfl (da_cons (de_var (i := 0)) da_nil)) de_int) (dw_or1 (dt_not (dt_tru (de_call (k := 8 * n) (IH 44 d44 (1007, ["told", "due"]) rfl rfl) hr (E.glo 55) (E.df 44 (d := d44)).kp (bd_44 E) (L2N.takes_of rfl rfl rfl rfl) (da_cons (de_idx dix (de_var (i := 0)) de_int) (da_cons (de_var (i := 1)) da_nil))))))))) (ds_one (ds_ret de_bl)) ds_nil)
    (ds_one (ds_ret (de_cmp dop_is (de_call (k := 8 * n) (IH 22 d22 (109, ["claim", "certificate"]) rfl rfl) hr (E.glo 56) (E.df 22 (d := d22)).kp (bd_22 E) (L2N.takes_of rfl rfl rfl rfl) (da_cons (de_idx dix (de_var (i := 0)) de_int) (da_cons (de_idx dix (de_var (i := 0)) de_int) da_nil))) de_bl))))
theorem ok_46 (E : Ev fa fn ts ex w K mg) {n : Nat} (IH : Lev P w K mg base (TT K) fn ids tab n) : FnOk P w K mg base (L2N.CX P w) (8 * (n + 1)) (fA K d46.at_) (fdK K d46.at_) ["number", "divisor"] (fnD K (TT K) (GG tab (n + 1) 1009)) := by
  have nd := sc_46.nd
  rw [GG_succ (show tab 1009 = some (true, 2, 2, b_law_law_up) from rfl)]
  refine fn_ok (k := 8 * n + 7) (N := ["number", "divisor"]) (ps := ["number", "divisor"]) (b := b_law_law_up (GG tab n)) (fz := true) (E.df 46 (d := d46)) sc_46 fun cdv A outer s H X' hr5 => ?_
  have hr4 := hr5.mono (j := 8 * n + 4) (by omega)
  have hr2 := hr5.mono (j := 8 * n + 2) (by omega)
  have hr1 := hr5.mono (j := 8 * n + 1) (by omega)
  have hr := hr5.mono (j := 8 * n) (by omega)
  exact (ds_one (ds_ret (de_bin dop_fdiv (de_bin dop_sub (de_bin dop_add (de_var (i := 0)) (de_var (i := 1))) de_int) (de_var (i := 1)))))
theorem ok_47 (E : Ev fa fn ts ex w K mg) {n : Nat} (IH : Lev P w K mg base (TT K) fn ids tab n) : FnOk P w K mg base (L2N.CX P w) (8 * (n + 1)) (fA K d47.at_) (fdK K d47.at_) ["many", "sizes", "times", "divisors"] (fnD K (TT K) (GG tab (n + 1) 1010)) := by
  have nd := sc_47.nd
  rw [GG_succ (show tab 1010 = some (true, 4, 9, b_law_law_numbers) from rfl)]
  refine fn_ok (k := 8 * n + 7) (N := ["many", "sizes", "times", "divisors", "found", "divisor", "ups", "rest", "size"]) (ps := ["many", "sizes", "times", "divisors"]) (b := b_law_law_numbers (GG tab n)) (fz := true) (E.df 47 (d := d47)) sc_47 fun cdv A outer s H X' hr5 => ?_
  have hr4 := hr5.mono (j := 8 * n + 4) (by omega)
  have hr2 := hr5.mono (j := 8 * n + 2) (by omega)
  have hr1 := hr5.mono (j := 8 * n + 1) (by omega)
  have hr := hr5.mono (j := 8 * n) (by omega)
  exact (ds_cons (ds_set (i := 4) (de_dspl (ppd_cons (de_mut da_nil) (ppd_cons (de_mut da_nil) (ppd_cons (de_mut da_nil) (ppd_cons (de_mut da_nil) ppd_nil)))) (fun z => by cases z) (by show 4 ≤ 15; decide) (by decide +kernel)) nd)
    (ds_cons (ds_for (passes_of rfl) rfl (di_seq (de_var (i := 3))) (dg_name (i := 5) nd) (ds_cons (ds_par2 (i := 6) (j := 7) (da_cons (de_lc (own := [("size", 8)]) rfl nd (di_seq (de_var (i := 1))) (blkOk_by (N := (["many", "sizes", "times", "divisors", "found", "divisor", "ups", "rest", "size"] : List Str)) (sc := (defScope (top 64))) (by decide +kernel)) (fun _ _ _ _ _ => pg_name (i := 8) nd rfl (by first | exact Or.inl rfl | exact Or.inr rfl)) (fun _ _ _ _ _ => dts_nil) (fun _ _ _ _ _ => (de_call (k := 8 * n) (IH 46 d46 (1009, ["number", "divisor"]) rfl rfl) hr (E.glo 57) (E.df 46 (d := d46)).kp (bd_46 E) takes0N (da_cons (de_var (i := 8)) (da_cons (de_var (i := 5)) da_nil)))) (bdOk1 8)) (da_cons (de_bin dop_fdiv (de_var (i := 0)) (de_var (i := 5))) da_nil)) rfl nd rfl rfl (by decide) (by first | rfl | kernel_rfl) (by first | rfl | kernel_rfl) (ps_par rfl nd rfl rfl (by decide) (by first | rfl | kernel_rfl) (by first | rfl | kernel_rfl) (da_cons (de_lc (own := [("size", 8)]) rfl nd (di_seq (de_var (i := 1))) (blkOk_by (N := (["many", "sizes", "times", "divisors", "found", "divisor", "ups", "rest", "size"] : List Str)) (sc := (defScope (top 64))) (by decide +kernel)) (fun _ _ _ _ _ => pg_name (i := 8) nd rfl (by first | exact Or.inl rfl | exact Or.inr rfl)) (fun _ _ _ _ _ => dts_nil) (fun _ _ _ _ _ => (de_call (k := 8 * n) (IH 46 d46 (1009, ["number", "divisor"]) rfl rfl) hr (E.glo 57) (E.df 46 (d := d46)).kp (bd_46 E) takes0N (da_cons (de_var (i := 8)) (da_cons (de_var (i := 5)) da_nil)))) (bdOk1 8)) (da_cons (de_bin dop_fdiv (de_var (i := 0)) (de_var (i := 5))) da_nil)) (by first | rfl | kernel_rfl)))
    (ds_cons (ds_exp (de_apnd (de_idxR hr.units (de_var (i := 4)) de_str) (de_bin dop_mul (de_bin dop_sub (de_bin dop_add (de_idx dix (de_var (i := 6)) de_int) (de_idx dix (de_var (i := 6)) de_int)) de_int) (de_var (i := 5)))))
    (ds_cons (ds_exp (de_apnd (de_idxR hr.units (de_var (i := 4)) de_str) (de_bin dop_mul (de_bin dop_add (de_bin dop_sub (de_bin dop_mul (de_var (i := 2)) (de_idx dix (de_var (i := 6)) de_int)) (de_var (i := 2))) de_int) (de_var (i := 5)))))
    (ds_cons (ds_exp (de_apnd (de_idxR hr.units (de_var (i := 4)) de_str) (de_bin dop_mul (de_un dun_neg (de_call (k := 8 * n) (IH 46 d46 (1009, ["number", "divisor"]) rfl rfl) hr (E.glo 57) (E.df 46 (d := d46)).kp (bd_46 E) (L2N.takes_of rfl rfl rfl rfl) (da_cons (de_bin dop_sub (de_var (i := 7)) de_int) (da_cons (de_var (i := 2)) da_nil)))) (de_var (i := 5)))))
    (ds_one (ds_exp (de_apnd (de_idxR hr.units (de_var (i := 4)) de_str) (de_bin dop_mul (de_un dun_neg (de_bin dop_add (de_bin dop_fdiv (de_bin dop_sub (de_var (i := 5)) de_int) (de_bin dop_add (de_bin dop_mul de_int (de_var (i := 2))) de_int)) de_int)) (de_var (i := 7)))))))))))
    (ds_one (ds_ret (de_frzR (de_var (i := 4)))))))
theorem ok_48 (E : Ev fa fn ts ex w K mg) {n : Nat} (IH : Lev P w K mg base (TT K) fn ids tab n) : FnOk P w K mg base (L2N.CX P w) (8 * (n + 1)) (fA K d48.at_) (fdK K d48.at_) ["made", "due", "divisors", "numbers", "many"] (fnD K (TT K) (GG tab (n + 1) 1011)) := by
  have nd := sc_48.nd
  rw [GG_succ (show tab 1011 = some (true, 5, 9, b_law_law_made_right) from rfl)]
  refine fn_ok (k := 8 * n + 7) (N := ["made", "due", "divisors", "numbers", "many", "best", "k", "told", "step"]) (ps := ["made", "due", "divisors", "numbers", "many"]) (b := b_law_law_made_right (GG tab n)) (fz := true) (E.df 48 (d := d48)) sc_48 fun cdv A outer s H X' hr5 => ?_
  have hr4 := hr5.mono (j := 8 * n + 4) (by omega)
  have hr2 := hr5.mono (j := 8 * n + 2) (by omega)
  have hr1 := hr5.mono (j := 8 * n + 1) (by omega)
  have hr := hr5.mono (j := 8 * n) (by omega)
  exact (ds_cons (ds_if (PW.pt (dw_or (dt_not (dt_tru (de_call (k := 8 * n) (IH 45 d45 (1008, ["made", "due"]) rfl rfl) hr (E.glo 58) (E.df 45 (d := d45)).kp (bd_45 E) (L2N.takes_of rfl rfl rfl rfl) (da_cons (de_var (i := 0)) (da_cons (de_var (i := 1)) da_nil))))) (dw_or (dt_not (dt_tru (de_call (k := 8 * n) (IH 39 d39 (1002, ["value", "least", "most"]) rfl rfl) hr (E.glo 59) (E.df 39 (d := d39)).kp (bd_39 E) (L2N.takes_of rfl rfl rfl rfl) (da_cons (de_idx dix (de_var (i := 0)) de_int) (da_cons de_int (da_cons (de_var (i := 4)) da_nil)))))) (dw_or1 (dt_cmp (dop_notin hr.units) (de_idx dix (de_var (i := 0)) de_int) (de_var (i := 2))))))) (ds_one (ds_ret de_bl)) ds_nil)
    (ds_cons (ds_set (i := 5) (de_bi (dc_min1 rfl) (E.free 10) rfl (da_cons (de_var (i := 3)) da_nil)) nd)
    (ds_cons (ds_if (dt_cmp (dop_ne hr.units) (de_idx dix (de_var (i := 3)) (de_index (de_var (i := 2)) (de_idx dix (de_var (i := 0)) de_int))) (de_var (i := 5))) (ds_one (ds_ret de_bl)) ds_nil)
    (ds_cons (ds_if (dt_cmp dop_gt (de_var (i := 4)) de_int) (ds_one (ds_ret de_bl)) ds_nil)
    (ds_cons (ds_for (passes_of rfl) rfl (di_range1 (E.free 48) (de_bi (dc_min2 rfl) (E.free 10) rfl (da_cons de_int (da_cons (de_bi dc_len (E.free 24) rfl (da_cons (de_var (i := 2)) da_nil)) da_nil)))) (dg_name (i := 6) nd) (ds_cons (ds_set (i := 7) (de_call (k := 8 * n) (IH 22 d22 (109, ["claim", "certificate"]) rfl rfl) hr (E.glo 56) (E.df 22 (d := d22)).kp (bd_22 E) (L2N.takes_of rfl rfl rfl rfl) (da_cons (de_var (i := 1)) (da_cons (de_idx dix (de_var (i := 2)) (de_var (i := 6))) da_nil))) nd)
    (ds_one (ds_if (PW.pt (dw_or (dt_not (dt_tru (de_isi kit_bool (de_var (i := 7)) (E.free 0) (E.free 2) rfl))) (dw_or1 (dt_cmp (dop_ne hr.units) (de_var (i := 7)) (de_cmp (dop_eq hr.units) (de_idx dix (de_var (i := 3)) (de_var (i := 6))) (de_var (i := 5))))))) (ds_one (ds_ret de_bl)) ds_nil))))
    (ds_cons (ds_for (passes_of rfl) rfl (di_seq (de_lst (da_cons (de_un dun_neg de_int) (da_cons de_int da_nil)))) (dg_name (i := 8) nd) (ds_one (ds_if (dt_cmp dop_isnot (de_call (k := 8 * n) (IH 22 d22 (109, ["claim", "certificate"]) rfl rfl) hr (E.glo 56) (E.df 22 (d := d22)).kp (bd_22 E) (L2N.takes_of rfl rfl rfl rfl) (da_cons (de_bin dop_add (de_sl (de_var (i := 1)) do_none (do_some (de_un dun_neg de_int))) (de_tup (da_cons (de_bin dop_add (de_idx dix (de_var (i := 1)) (de_un dun_neg de_int)) (de_var (i := 8))) da_nil))) (da_cons (de_idx dix (de_var (i := 0)) de_int) da_nil))) de_bl) (ds_one (ds_ret de_bl)) ds_nil)))
    (ds_one (ds_ret de_bl))))))))
theorem ok_49 (E : Ev fa fn ts ex w K mg) {n : Nat} (IH : Lev P w K mg base (TT K) fn ids tab n) : FnOk P w K mg base (L2N.CX P w) (8 * (n + 1)) (fA K d49.at_) (fdK K d49.at_) ["well", "k"] (fnD K (TT K) (GG tab (n + 1) 1012)) := by
  have nd := sc_49.nd
  rw [GG_succ (show tab 1012 = some (true, 2, 9, b_law_law_right) from rfl)]
  refine fn_ok (k := 8 * n + 7) (N := ["well", "k", "many", "times", "divisors", "sizes", "numbers", "turn", "due"]) (ps := ["well", "k"]) (b := b_law_law_right (GG tab n)) (fz := true) (E.df 49 (d := d49)) sc_49 fun cdv A outer s H X' hr5 => ?_
  have hr4 := hr5.mono (j := 8 * n + 4) (by omega)
  have hr2 := hr5.mono (j := 8 * n + 2) (by omega)
  have hr1 := hr5.mono (j := 8 * n + 1) (by omega)
  have hr := hr5.mono (j := 8 * n) (by omega)
  exact (ds_cons (ds_par2 (i := 2) (j := 3) (da_cons (de_call (k := 8 * n) (IH 41 d41 (1004, ["well", "k"]) rfl rfl) hr (E.glo 60) (E.df 41 (d := d41)).kp (bd_41 E) (L2N.takes_of rfl rfl rfl rfl) (da_cons (de_var (i := 0)) (da_cons (de_var (i := 1)) da_nil))) (da_cons (de_call (k := 8 * n) (IH 43 d43 (1006, ["well", "least"]) rfl rfl) hr (E.glo 61) (E.df 43 (d := d43)).kp (bd_43 E) (L2N.takes_of rfl rfl rfl rfl) (da_cons (de_var (i := 0)) (da_cons de_int da_nil))) da_nil)) rfl nd rfl rfl (by decide) (by first | rfl | kernel_rfl) (by first | rfl | kernel_rfl) (ps_par rfl nd rfl rfl (by decide) (by first | rfl | kernel_rfl) (by first | rfl | kernel_rfl) (da_cons (de_call (k := 8 * n) (IH 41 d41 (1004, ["well", "k"]) rfl rfl) hr (E.glo 60) (E.df 41 (d := d41)).kp (bd_41 E) (L2N.takes_of rfl rfl rfl rfl) (da_cons (de_var (i := 0)) (da_cons (de_var (i := 1)) da_nil))) (da_cons (de_call (k := 8 * n) (IH 43 d43 (1006, ["well", "least"]) rfl rfl) hr (E.glo 61) (E.df 43 (d := d43)).kp (bd_43 E) (L2N.takes_of rfl rfl rfl rfl) (da_cons (de_var (i := 0)) (da_cons de_int da_nil))) da_nil)) (by first | rfl | kernel_rfl)))
    (ds_cons (ds_set (i := 4) (de_call (k := 8 * n) (IH 40 d40 (1003, ["number"]) rfl rfl) hr (E.glo 62) (E.df 40 (d := d40)).kp (bd_40 E) (L2N.takes_of rfl rfl rfl rfl) (da_cons (de_var (i := 2)) da_nil)) nd)
    (ds_cons (ds_set (i := 5) (de_lst (da_cons (de_call (k := 8 * n) (IH 42 d42 (1005, ["well", "many", "divisors"]) rfl rfl) hr (E.glo 63) (E.df 42 (d := d42)).kp (bd_42 E) (L2N.takes_of rfl rfl rfl rfl) (da_cons (de_var (i := 0)) (da_cons (de_var (i := 2)) (da_cons (de_var (i := 4)) da_nil)))) (da_cons (de_call (k := 8 * n) (IH 42 d42 (1005, ["well", "many", "divisors"]) rfl rfl) hr (E.glo 63) (E.df 42 (d := d42)).kp (bd_42 E) (L2N.takes_of rfl rfl rfl rfl) (da_cons (de_var (i := 0)) (da_cons (de_var (i := 2)) (da_cons (de_var (i := 4)) da_nil)))) da_nil))) nd)
    (ds_cons (ds_set (i := 6) (de_call (k := 8 * n) (IH 47 d47 (1010, ["many", "sizes", "times", "divisors"]) rfl rfl) hr (E.glo 64) (E.df 47 (d := d47)).kp (bd_47 E) (L2N.takes_of rfl rfl rfl rfl) (da_cons (de_var (i := 2)) (da_cons (de_var (i := 5)) (da_cons (de_var (i := 3)) (da_cons (de_var (i := 4)) da_nil))))) nd)
    (ds_cons (ds_for (passes_of rfl) rfl (di_range1 (E.free 48) (de_if (dt_cmp dop_le (de_var (i := 2)) de_int) de_int de_int)) (dg_name (i := 7) nd) (ds_cons (ds_set (i := 8) (de_tup (da_cons de_str (da_cons (de_var (i := 2)) (da_cons (de_idx dix (de_var (i := 5)) de_int) (da_cons (de_idx dix (de_var (i := 5)) de_int) (da_cons (de_bi (dc_min1 rfl) (E.free 10) rfl (da_cons (de_kidx hr.units (de_var (i := 6)) de_str) da_nil)) da_nil)))))) nd)
    (ds_cons (ds_if (dt_not (dt_tru (de_call (k := 8 * n) (IH 48 d48 (1011, ["made", "due", "divisors", "numbers", "many"]) rfl rfl) hr (E.glo 66) (E.df 48 (d := d48)).kp (bd_48 E) (L2N.takes_of rfl rfl rfl rfl) (da_cons (de_call (k := 8 * n) (IH 16 d16 (124, ["clock", "size", "other_size"]) rfl rfl) hr (E.glo 65) (E.df 16 (d := d16)).kp (bd_16 E) (L2N.takes_of rfl rfl rfl rfl) (da_cons (de_var (i := 2)) (da_cons (de_idx dix (de_var (i := 5)) de_int) (da_cons (de_idx dix (de_var (i := 5)) de_int) da_nil)))) (da_cons (de_var (i := 8)) (da_cons (de_var (i := 4)) (da_cons (de_kidx hr.units (de_var (i := 6)) de_str) (da_cons (de_var (i := 2)) da_nil)))))))) (ds_one (ds_ret de_bl)) ds_nil)
    (ds_cons (ds_set (i := 8) (de_tup (da_cons de_str (da_cons (de_var (i := 2)) (da_cons (de_idx dix (de_var (i := 5)) de_int) (da_cons (de_var (i := 3)) (da_cons (de_bi (dc_min1 rfl) (E.free 10) rfl (da_cons (de_kidx hr.units (de_var (i := 6)) de_str) da_nil)) da_nil)))))) nd)
    (ds_cons (ds_if (dt_not (dt_tru (de_call (k := 8 * n) (IH 48 d48 (1011, ["made", "due", "divisors", "numbers", "many"]) rfl rfl) hr (E.glo 66) (E.df 48 (d := d48)).kp (bd_48 E) (L2N.takes_of rfl rfl rfl rfl) (da_cons (de_call (k := 8 * n) (IH 17 d17 (125, ["clock", "size", "times"]) rfl rfl) hr (E.glo 67) (E.df 17 (d := d17)).kp (bd_17 E) (L2N.takes_of rfl rfl rfl rfl) (da_cons (de_var (i := 2)) (da_cons (de_idx dix (de_var (i := 5)) de_int) (da_cons (de_var (i := 3)) da_nil)))) (da_cons (de_var (i := 8)) (da_cons (de_var (i := 4)) (da_cons (de_kidx hr.units (de_var (i := 6)) de_str) (da_cons (de_var (i := 2)) da_nil)))))))) (ds_one (ds_ret de_bl)) ds_nil)
    (ds_cons (ds_set (i := 8) (de_tup (da_cons de_str (da_cons (de_var (i := 2)) (da_cons (de_var (i := 3)) (da_cons (de_bin dop_sub de_int (de_bi (dc_min1 rfl) (E.free 10) rfl (da_cons (de_kidx hr.units (de_var (i := 6)) de_str) da_nil))) da_nil))))) nd)
    (ds_cons (ds_if (dt_not (dt_tru (de_call (k := 8 * n) (IH 48 d48 (1011, ["made", "due", "divisors", "numbers", "many"]) rfl rfl) hr (E.glo 66) (E.df 48 (d := d48)).kp (bd_48 E) (L2N.takes_of rfl rfl rfl rfl) (da_cons (de_call (k := 8 * n) (IH 18 d18 (126, ["clock", "times"]) rfl rfl) hr (E.glo 68) (E.df 18 (d := d18)).kp (bd_18 E) (L2N.takes_of rfl rfl rfl rfl) (da_cons (de_var (i := 2)) (da_cons (de_var (i := 3)) da_nil))) (da_cons (de_var (i := 8)) (da_cons (de_var (i := 4)) (da_cons (de_kidx hr.units (de_var (i := 6)) de_str) (da_cons (de_var (i := 2)) da_nil)))))))) (ds_one (ds_ret de_bl)) ds_nil)
    (ds_cons (ds_set (i := 8) (de_tup (da_cons de_str (da_cons (de_var (i := 2)) (da_cons (de_var (i := 3)) (da_cons (de_un dun_neg (de_bi (dc_min1 rfl) (E.free 10) rfl (da_cons (de_kidx hr.units (de_var (i := 6)) de_str) da_nil))) da_nil))))) nd)
    (ds_one (ds_if (dt_not (dt_tru (de_call (k := 8 * n) (IH 48 d48 (1011, ["made", "due", "divisors", "numbers", "many"]) rfl rfl) hr (E.glo 66) (E.df 48 (d := d48)).kp (bd_48 E) (L2N.takes_of rfl rfl rfl rfl) (da_cons (de_call (k := 8 * n) (IH 19 d19 (127, ["clock", "times"]) rfl rfl) hr (E.glo 69) (E.df 19 (d := d19)).kp (bd_19 E) (L2N.takes_of rfl rfl rfl rfl) (da_cons (de_var (i := 2)) (da_cons (de_var (i := 3)) da_nil))) (da_cons (de_var (i := 8)) (da_cons (de_var (i := 4)) (da_cons (de_kidx hr.units (de_var (i := 6)) de_str) (da_cons (de_var (i := 2)) da_nil)))))))) (ds_one (ds_ret de_bl)) ds_nil))))))))))
    (ds_cons (ds_if (dt_cmp dop_gt (de_var (i := 2)) de_int) (ds_one (ds_ret de_bl)) ds_nil)
    (ds_cons (ds_if (dt_cmp (dop_ne hr.units) (de_call (k := 8 * n) (IH 16 d16 (124, ["clock", "size", "other_size"]) rfl rfl) hr (E.glo 65) (E.df 16 (d := d16)).kp (bd_16 E) (L2N.takes_of rfl rfl rfl rfl) (da_cons (de_var (i := 2)) (da_cons (de_idx dix (de_var (i := 5)) de_int) (da_cons (de_idx dix (de_var (i := 5)) de_int) da_nil)))) (de_call (k := 8 * n) (IH 16 d16 (124, ["clock", "size", "other_size"]) rfl rfl) hr (E.glo 65) (E.df 16 (d := d16)).kp (bd_16 E) (L2N.takes_of rfl rfl rfl rfl) (da_cons (de_var (i := 2)) (da_cons (de_idx dix (de_var (i := 5)) de_int) (da_cons (de_idx dix (de_var (i := 5)) de_int) da_nil))))) (ds_one (ds_ret de_bl)) ds_nil)
    (ds_one (ds_ret (de_call (k := 8 * n) (IH 45 d45 (1008, ["made", "due"]) rfl rfl) hr (E.glo 58) (E.df 45 (d := d45)).kp (bd_45 E) (L2N.takes_of rfl rfl rfl rfl) (da_cons (de_call (k := 8 * n) (IH 17 d17 (125, ["clock", "size", "times"]) rfl rfl) hr (E.glo 67) (E.df 17 (d := d17)).kp (bd_17 E) (L2N.takes_of rfl rfl rfl rfl) (da_cons (de_var (i := 2)) (da_cons (de_idx dix (de_var (i := 5)) de_int) (da_cons de_int da_nil)))) (da_cons (de_tup (da_cons de_str (da_cons (de_var (i := 2)) (da_cons (de_idx dix (de_var (i := 5)) de_int) (da_cons de_int (da_cons de_int da_nil)))))) da_nil))))))))))))
theorem ok_50 (E : Ev fa fn ts ex w K mg) {n : Nat} (IH : Lev P w K mg base (TT K) fn ids tab n) : FnOk P w K mg base (L2N.CX P w) (8 * (n + 1)) (fA K d50.at_) (fdK K d50.at_) ["script"] (fnD K (TT K) (GG tab (n + 1) 1013)) := by
  have nd := sc_50.nd
  rw [GG_succ (show tab 1013 = some (true, 1, 2, b_law_law) from rfl)]
  refine fn_ok (k := 8 * n + 7) (N := ["script", "k"]) (ps := ["script"]) (b := b_law_law (GG tab n)) (fz := true) (E.df 50 (d := d50)) sc_50 fun cdv A outer s H X' hr5 => ?_
  have hr4 := hr5.mono (j := 8 * n + 4) (by omega)
  have hr2 := hr5.mono (j := 8 * n + 2) (by omega)
  have hr1 := hr5.mono (j := 8 * n + 1) (by omega)
  have hr := hr5.mono (j := 8 * n) (by omega)
  exact (ds_cons (ds_for (passes_of rfl) rfl (di_range1 (E.free 48) (de_bi (dc_max2 rfl) (E.free 54) rfl (da_cons de_int (da_cons (de_bi (dc_min2 rfl) (E.free 10) rfl (da_cons (de_bi dc_len (E.free 24) rfl (da_cons (de_var (i := 0)) da_nil)) (da_cons de_int da_nil))) da_nil)))) (dg_name (i := 1) nd) (ds_one (ds_if (dt_not (dt_tru (de_call (k := 8 * n) (IH 49 d49 (1012, ["well", "k"]) rfl rfl) hr (E.glo 71) (E.df 49 (d := d49)).kp (bd_49 E) (L2N.takes_of rfl rfl rfl rfl) (da_cons (de_call (k := 8 * n) (IH 37 d37 (1000, ["script", "k"]) rfl rfl) hr (E.glo 70) (E.df 37 (d := d37)).kp (bd_37 E) (L2N.takes_of rfl rfl rfl rfl) (da_cons (de_var (i := 0)) (da_cons (de_var (i := 1)) da_nil))) (da_cons (de_var (i := 1)) da_nil))))) (ds_one (ds_ret de_bl)) ds_nil)))
    (ds_one (ds_ret de_bl)))
end
theorem lev {P : Program} {w : World} {K : PySem.W.Frag} {mg : Str → Option Value} {base : Heap} (E : Ev fa fn ts ex w K mg) : ∀ n, Lev P w K mg base (TT K) fn ids tab n := lev_all fun n IH => fun i d k h1 h2 => by
  match i, h1, h2 with
  | 0, h1, h2 => cases (show some d0 = some d from h1); cases (show some (1, (["self", "given"] : List Str)) = some k from h2); rw [GG_none (show tab 1 = none from rfl)]; exact fn_none
  | 1, h1, h2 => cases (show some d1 = some d from h1); cases (show some (7, (["self", "number"] : List Str)) = some k from h2); rw [GG_none (show tab 7 = none from rfl)]; exact fn_none
  | 2, h1, h2 => cases (show some d2 = some d from h1); cases (show some (9, (["value"] : List Str)) = some k from h2); exact ok_2 E IH
  | 3, h1, h2 => cases (show some d3 = some d from h1); cases (show some (10, (["value", "least", "most"] : List Str)) = some k from h2); exact ok_3 E IH
  | 4, h1, h2 => cases (show some d4 = some d from h1); cases (show some (12, (["clock", "most"] : List Str)) = some k from h2); exact ok_4 E IH
  | 5, h1, h2 => cases (show some d5 = some d from h1); cases (show some (13, (["size", "clock"] : List Str)) = some k from h2); exact ok_5 E IH
  | 6, h1, h2 => cases (show some d6 = some d from h1); cases (show some (14, (["times", "least"] : List Str)) = some k from h2); exact ok_6 E IH
  | 7, h1, h2 => cases (show some d7 = some d from h1); cases (show some (18, (["number"] : List Str)) = some k from h2); exact ok_7 E IH
  | 8, h1, h2 => cases (show some d8 = some d from h1); cases (show some (19, (["number", "divisor"] : List Str)) = some k from h2); exact ok_8 E IH
  | 9, h1, h2 => cases (show some d9 = some d from h1); cases (show some (64, (["clock", "size", "other_size"] : List Str)) = some k from h2); exact ok_9 E IH
  | 10, h1, h2 => cases (show some d10 = some d from h1); cases (show some (65, (["clock", "size", "times"] : List Str)) = some k from h2); exact ok_10 E IH
  | 11, h1, h2 => cases (show some d11 = some d from h1); cases (show some (66, (["clock", "times"] : List Str)) = some k from h2); exact ok_11 E IH
  | 12, h1, h2 => cases (show some d12 = some d from h1); cases (show some (67, (["clock", "times"] : List Str)) = some k from h2); exact ok_12 E IH
  | 13, h1, h2 => cases (show some d13 = some d from h1); cases (show some (68, (["clock", "size", "other_size"] : List Str)) = some k from h2); exact ok_13 E IH
  | 14, h1, h2 => cases (show some d14 = some d from h1); cases (show some (69, (["clock", "size", "times"] : List Str)) = some k from h2); exact ok_14 E IH
  | 15, h1, h2 => cases (show some d15 = some d from h1); cases (show some (70, (["clock", "times"] : List Str)) = some k from h2); exact ok_15 E IH
  | 16, h1, h2 => cases (show some d16 = some d from h1); cases (show some (124, (["clock", "size", "other_size"] : List Str)) = some k from h2); exact ok_16 E IH
  | 17, h1, h2 => cases (show some d17 = some d from h1); cases (show some (125, (["clock", "size", "times"] : List Str)) = some k from h2); exact ok_17 E IH
  | 18, h1, h2 => cases (show some d18 = some d from h1); cases (show some (126, (["clock", "times"] : List Str)) = some k from h2); exact ok_18 E IH
  | 19, h1, h2 => cases (show some d19 = some d from h1); cases (show some (127, (["clock", "times"] : List Str)) = some k from h2); exact ok_19 E IH
  | 20, h1, h2 => cases (show some d20 = some d from h1); cases (show some (107, (["value"] : List Str)) = some k from h2); exact ok_20 E IH
  | 21, h1, h2 => cases (show some d21 = some d from h1); cases (show some (108, (["value", "least", "most"] : List Str)) = some k from h2); exact ok_21 E IH
  | 22, h1, h2 => cases (show some d22 = some d from h1); cases (show some (109, (["claim", "certificate"] : List Str)) = some k from h2); exact ok_22 E IH
  | 23, h1, h2 => cases (show some d23 = some d from h1); cases (show some (110, (["word", "parts"] : List Str)) = some k from h2); exact ok_23 E IH
  | 24, h1, h2 => cases (show some d24 = some d from h1); cases (show some (111, (["number", "divisor"] : List Str)) = some k from h2); exact ok_24 E IH
  | 25, h1, h2 => cases (show some d25 = some d from h1); cases (show some (112, (["word", "parts", "divisor"] : List Str)) = some k from h2); exact ok_25 E IH
  | 26, h1, h2 => cases (show some d26 = some d from h1); cases (show some (113, (["word", "parts", "divisor"] : List Str)) = some k from h2); exact ok_26 E IH
  | 27, h1, h2 => cases (show some d27 = some d from h1); cases (show some (114, (["text"] : List Str)) = some k from h2); exact ok_27 E IH
  | 28, h1, h2 => cases (show some d28 = some d from h1); cases (show some (115, (["text"] : List Str)) = some k from h2); exact ok_28 E IH
  | 29, h1, h2 => cases (show some d29 = some d from h1); cases (show some (116, (["clock", "one", "other"] : List Str)) = some k from h2); exact ok_29 E IH
  | 30, h1, h2 => cases (show some d30 = some d from h1); cases (show some (117, (["clock", "hours", "hour"] : List Str)) = some k from h2); exact ok_30 E IH
  | 31, h1, h2 => cases (show some d31 = some d from h1); cases (show some (118, (["row", "hours"] : List Str)) = some k from h2); exact ok_31 E IH
  | 32, h1, h2 => cases (show some d32 = some d from h1); cases (show some (119, (["word", "parts", "certificate"] : List Str)) = some k from h2); exact ok_32 E IH
  | 33, h1, h2 => cases (show some d33 = some d from h1); cases (show some (120, (["word", "parts", "certificate"] : List Str)) = some k from h2); exact ok_33 E IH
  | 34, h1, h2 => cases (show some d34 = some d from h1); cases (show some (121, (["clock", "sets", "hour", "summand"] : List Str)) = some k from h2); exact ok_34 E IH
  | 35, h1, h2 => cases (show some d35 = some d from h1); cases (show some (122, (["clock", "sets", "certificate"] : List Str)) = some k from h2); exact ok_35 E IH
  | 36, h1, h2 => cases (show some d36 = some d from h1); cases (show some (123, (["clock", "sets", "certificate"] : List Str)) = some k from h2); exact ok_36 E IH
  | 37, h1, h2 => cases (show some d37 = some d from h1); cases (show some (1000, (["script", "k"] : List Str)) = some k from h2); exact ok_37 E IH
  | 38, h1, h2 => cases (show some d38 = some d from h1); cases (show some (1001, (["well", "many"] : List Str)) = some k from h2); exact ok_38 E IH
  | 39, h1, h2 => cases (show some d39 = some d from h1); cases (show some (1002, (["value", "least", "most"] : List Str)) = some k from h2); exact ok_39 E IH
  | 40, h1, h2 => cases (show some d40 = some d from h1); cases (show some (1003, (["number"] : List Str)) = some k from h2); exact ok_40 E IH
  | 41, h1, h2 => cases (show some d41 = some d from h1); cases (show some (1004, (["well", "k"] : List Str)) = some k from h2); exact ok_41 E IH
  | 42, h1, h2 => cases (show some d42 = some d from h1); cases (show some (1005, (["well", "many", "divisors"] : List Str)) = some k from h2); exact ok_42 E IH
  | 43, h1, h2 => cases (show some d43 = some d from h1); cases (show some (1006, (["well", "least"] : List Str)) = some k from h2); exact ok_43 E IH
  | 44, h1, h2 => cases (show some d44 = some d from h1); cases (show some (1007, (["told", "due"] : List Str)) = some k from h2); exact ok_44 E IH
  | 45, h1, h2 => cases (show some d45 = some d from h1); cases (show some (1008, (["made", "due"] : List Str)) = some k from h2); exact ok_45 E IH
  | 46, h1, h2 => cases (show some d46 = some d from h1); cases (show some (1009, (["number", "divisor"] : List Str)) = some k from h2); exact ok_46 E IH
  | 47, h1, h2 => cases (show some d47 = some d from h1); cases (show some (1010, (["many", "sizes", "times", "divisors"] : List Str)) = some k from h2); exact ok_47 E IH
  | 48, h1, h2 => cases (show some d48 = some d from h1); cases (show some (1011, (["made", "due", "divisors", "numbers", "many"] : List Str)) = some k from h2); exact ok_48 E IH
  | 49, h1, h2 => cases (show some d49 = some d from h1); cases (show some (1012, (["well", "k"] : List Str)) = some k from h2); exact ok_49 E IH
  | 50, h1, h2 => cases (show some d50 = some d from h1); cases (show some (1013, (["script"] : List Str)) = some k from h2); exact ok_50 E IH
  | i + 51, h1, h2 => exact absurd (List.getElem?_eq_some_iff.mp h1).1 (by rw [show fn.length = 51 from rfl]; omega)
end Hd
open PySem PySem.W PySem.Calls PyProof.Rows in
theorem PySem.Challenge.cw_hoursums_k62_whole_sizes_certified_holds : PySem.Challenge.rw_hoursums_k62_whole_sizes_certified.Holds := by
  w_on; o_law
  refine HandSHeadRun.head_any (r := OpenLaw.row PySem.Challenge.rw_hoursums_k62_whole_sizes_certified) (q := view (OpenLaw.row PySem.Challenge.rw_hoursums_k62_whole_sizes_certified).prog [67]) (H := Hd.hk) (ob := Hd.ob) (M := 8000) (loose := Hd.loose) (d := HandSHeadRun.topDef (OpenLaw.row PySem.Challenge.rw_hoursums_k62_whole_sizes_certified).prog 67) (kwd := []) Hd.ob_eq
    (by kernel_rfl) (fun s => by kernel_rfl) Hd.run (by kernel_rfl) (by kernel_rfl) (by kernel_rfl) (by rfl) (by first | assumption | decide +kernel) (by decide +kernel) ⟨rfl, rfl, rfl, rfl, rfl, by decide +kernel⟩ ?hw ?hc
  case hw => w_witness2
  case hc =>
    refine L2.walk_ofE (l := PySem.Challenge.rw_hoursums_k62_whole_sizes_certified) (n := 63) (k := 160) (x := "script") (CX := L2.CX0) rfl (by decide) (by kernel_rfl) ⟨rfl, by decide, by decide⟩ ?F (fun _ _ _ _ z => z)
    intro w mg fa h Y G hmg0
    obtain ⟨K, KX, c, m⟩ := Y
    have hmg : mg ("law" : PySem.Str) = some (.ref fa) := by
      have e : (HandSHeadRun.topDef (OpenLaw.row PySem.Challenge.rw_hoursums_k62_whole_sizes_certified).prog 67).name = ("law" : PySem.Str) := by kernel_rfl
      rw [← e]
      exact hmg0
    have E : Mi.Ev Hd.fa Hd.fn Hd.ts Hd.ex w K mg := ⟨c.t.d, c.t, c.more, m, h, KX, G⟩
    have e := hmg.symm.trans (E.glo 72)
    cases e
    have F := E.df 50 (d := Hd.d50)
    have b := L2.FunD.bindsA (ps := ["script"]) F fun _ _ _ _ _ _ us hl => match us, hl with | [_], _ => rfl
    exact ⟨K, Mi.fdK K Hd.d50.at_, fun vs H Q _ => Mi.fnD K (Hd.TT K) (Mi.GG Hd.tab 20 1013) vs H Q fun _ _ _ => False, KX, fun s v => b s [v] rfl, fun H a ns hl hO hS => Mi.start_at (T := Hd.TT K) (E := fun _ _ _ => False) hS (Mi.law_k62 (n := 12) Hd.tl ns), fun base hb hB => Mi.fn_cx0 (Hd.lev E 20 50 Hd.d50 (1013, ["script"]) rfl rfl)⟩
