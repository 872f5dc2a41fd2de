import PyProof.Rows.All
import Wide.All
import OpenK.AllK
import Wide.FinOn
import HandS.ForMost
import HandS.HeadWalk
import HandS.HeadNt
import HandS.Head0
import HandS.Head1
import HandS.Head2
import HandS.HeadEnd
import HandS.DictComp
import HandS.Style
import HandS.Star
import HandS.Defaults
import HandS.Deep
import HandS.Strs
import HandS.TupAny
import HandS.StrMore
import HandS.Wide
import HandS.Small
import HandS.IsInst
import HandS.More
import HandS.WordsDict
import HandS.RaiseMore
import HandS.Text
import HandS.StrSplit
import HandS.Words
import HandS.Codes
import HandS.ClsMeth
import HandS.Property
import HandS.MakeKwOnly
import HandS.SortInts
import HandS.RevRange
import PySem.Challenge.RW_letineditions_k79_whole_plans_or_cells
set_option Elab.async false
set_option linter.all false
set_option maxRecDepth 100000
set_option maxHeartbeats 0
namespace Mp
open PySem PySem.Spec PyProof.Rows L2

/-- immutable data -/
inductive D where
  | non | bl (b : Bool) | int (i : Int) | str (s : Str) | ty (n : String) | glo (x : Str)
  | lst (xs : List D) | tup (xs : List D) | dic (kvs : List (Key × D)) | ins (c : Str) (fs : List (Str × D)) | scr (xs : List D)

mutual
/-- the value v stands for d in the shared heap H -/
inductive Rep (K : PySem.W.Frag) (mg : Str → Option Value) (H : Hp) : V → D → Prop where
  | non : Rep K mg H .non .non
  | bl {b} : Rep K mg H (.bl b) (.bl b)
  | int {i} : Rep K mg H (.int i) (.int i)
  | str {s} : Rep K mg H (.str s) (.str s)
  | ty {n} : Rep K mg H (.ty n) (.ty n)
  | glo {x a} : mg x = some (.ref a) → Rep K mg H (.ref a) (.glo x)
  | lst {a vs xs} : H a = some (.lst vs) → Reps K mg H vs xs → Rep K mg H (.ref a) (.lst xs)
  | tup {a vs xs} : SqT K H a vs → Reps K mg H vs xs → Rep K mg H (.ref a) (.tup xs)
  | dic {a od ks kvs} : H a = some (.frz od (.dK ks)) → RepK K mg H ks kvs → Rep K mg H (.ref a) (.dic kvs)
  | scr {a vs xs} : SqL K H a vs → Reps K mg H vs xs → Rep K mg H (.ref a) (.scr xs)
  | ins {a C dx gs c fs} : mg c = some (.ref C) → H a = some (.ins C dx gs) → RepF K mg H gs fs → Rep K mg H (.ref a) (.ins c fs)
inductive Reps (K : PySem.W.Frag) (mg : Str → Option Value) (H : Hp) : List V → List D → Prop where
  | nil : Reps K mg H [] []
  | cons {v d vs ds} : Rep K mg H v d → Reps K mg H vs ds → Reps K mg H (v :: vs) (d :: ds)
inductive RepK (K : PySem.W.Frag) (mg : Str → Option Value) (H : Hp) : List (Key × V) → List (Key × D) → Prop where
  | nil : RepK K mg H [] []
  | cons {k v d vs ds} : Rep K mg H v d → RepK K mg H vs ds → RepK K mg H ((k, v) :: vs) ((k, d) :: ds)
inductive RepF (K : PySem.W.Frag) (mg : Str → Option Value) (H : Hp) : List (Str × V) → List (Str × D) → Prop where
  | nil : RepF K mg H [] []
  | cons {k v d vs ds} : Rep K mg H v d → RepF K mg H vs ds → RepF K mg H ((k, v) :: vs) ((k, d) :: ds)
end

section
variable {K : PySem.W.Frag} {mg : Str → Option Value} {H H' : Hp}
theorem SqT_same {a : Addr} {xs : List V} (e : Same H H') (h : SqT K H a xs) : SqT K H' a xs := by
  rcases h with (h | ⟨o, h⟩) | h
  · exact .inl (.inl (e _ _ h))
  · exact .inl (.inr ⟨o, e _ _ h⟩)
  · exact .inr h
theorem SqL_same {a : Addr} {xs : List V} (e : Same H H') (h : SqL K H a xs) : SqL K H' a xs := by
  rcases h with (h | ⟨o, h⟩) | h
  · exact .inl (.inl (e _ _ h))
  · exact .inl (.inr ⟨o, e _ _ h⟩)
  · exact .inr h
theorem Rd_same {a : Addr} {u : HO} (e : Same H H') (h : Rd H a u) : Rd H' a u := by
  rcases h with h | ⟨o, h⟩
  · exact .inl (e _ _ h)
  · exact .inr ⟨o, e _ _ h⟩
mutual
theorem Rep.mono (e : Same H H') : ∀ {v : V} {d : D}, Rep K mg H v d → Rep K mg H' v d
  | _, _, .non => .non
  | _, _, .bl => .bl
  | _, _, .int => .int
  | _, _, .str => .str
  | _, _, .ty => .ty
  | _, _, .glo h => .glo h
  | _, _, .lst h r => .lst (e _ _ h) (Reps.mono e r)
  | _, _, .tup h r => .tup (SqT_same e h) (Reps.mono e r)
  | _, _, .dic h r => .dic (e _ _ h) (RepK.mono e r)
  | _, _, .scr h r => .scr (SqL_same e h) (Reps.mono e r)
  | _, _, .ins h1 h2 r => .ins h1 (e _ _ h2) (RepF.mono e r)
theorem Reps.mono (e : Same H H') : ∀ {v : List V} {d : List D}, Reps K mg H v d → Reps K mg H' v d
  | _, _, .nil => .nil
  | _, _, .cons h r => .cons (Rep.mono e h) (Reps.mono e r)
theorem RepK.mono (e : Same H H') : ∀ {v : List (Key × V)} {d : List (Key × D)}, RepK K mg H v d → RepK K mg H' v d
  | _, _, .nil => .nil
  | _, _, .cons h r => .cons (Rep.mono e h) (RepK.mono e r)
theorem RepF.mono (e : Same H H') : ∀ {v : List (Str × V)} {d : List (Str × D)}, RepF K mg H v d → RepF K mg H' v d
  | _, _, .nil => .nil
  | _, _, .cons h r => .cons (Rep.mono e h) (RepF.mono e r)
end
theorem Reps.length : ∀ {vs : List V} {ds : List D}, Reps K mg H vs ds → vs.length = ds.length
  | _, _, .nil => rfl
  | _, _, .cons _ r => congrArg (· + 1) r.length
theorem Reps.append : ∀ {vs ws : List V} {ds es : List D}, Reps K mg H vs ds → Reps K mg H ws es → Reps K mg H (vs ++ ws) (ds ++ es)
  | _, _, _, _, .nil, s => s
  | _, _, _, _, .cons h r, s => .cons h (r.append s)
theorem Reps.get : ∀ {vs : List V} {ds : List D} {i : Nat} {d : D}, Reps K mg H vs ds → ds[i]? = some d → ∃ v, vs[i]? = some v ∧ Rep K mg H v d
  | _, _, _, _, .nil, e => by simp at e
  | _, _, 0, _, .cons h _, e => by simp at e; subst e; exact ⟨_, rfl, h⟩
  | _, _, i + 1, _, .cons _ r, e => by
    obtain ⟨v, h1, h2⟩ := r.get (i := i) (by simpa using e)
    exact ⟨v, by simpa using h1, h2⟩
theorem Reps.getV : ∀ {vs : List V} {ds : List D} {i : Nat} {v : V}, Reps K mg H vs ds → vs[i]? = some v → ∃ d, ds[i]? = some d ∧ Rep K mg H v d
  | _, _, _, _, .nil, e => by simp at e
  | _, _, 0, _, .cons h _, e => by simp at e; subst e; exact ⟨_, rfl, h⟩
  | _, _, i + 1, _, .cons _ r, e => by
    obtain ⟨v, h1, h2⟩ := r.getV (i := i) (by simpa using e)
    exact ⟨v, by simpa using h1, h2⟩
theorem Reps.set {v : V} {d : D} (h : Rep K mg H v d) : ∀ {vs : List V} {ds : List D} (i : Nat), Reps K mg H vs ds → Reps K mg H (vs.set i v) (ds.set i d)
  | _, _, _, .nil => .nil
  | _, _, 0, .cons _ r => .cons h r
  | _, _, i + 1, .cons q r => .cons q (Reps.set h i r)
theorem Reps.take : ∀ {vs : List V} {ds : List D} (i : Nat), Reps K mg H vs ds → Reps K mg H (vs.take i) (ds.take i)
  | _, _, 0, _ => .nil
  | _, _, _ + 1, .nil => .nil
  | _, _, i + 1, .cons q r => .cons q (r.take i)
theorem Reps.drop : ∀ {vs : List V} {ds : List D} (i : Nat), Reps K mg H vs ds → Reps K mg H (vs.drop i) (ds.drop i)
  | _, _, 0, r => r
  | _, _, _ + 1, .nil => .nil
  | _, _, i + 1, .cons _ r => r.drop i
theorem Reps.reverse : ∀ {vs : List V} {ds : List D}, Reps K mg H vs ds → Reps K mg H vs.reverse ds.reverse
  | _, _, .nil => .nil
  | _, _, .cons q r => by rw [List.reverse_cons, List.reverse_cons]; exact r.reverse.append (.cons q .nil)
theorem RepK.length : ∀ {vs : List (Key × V)} {ds : List (Key × D)}, RepK K mg H vs ds → vs.length = ds.length
  | _, _, .nil => rfl
  | _, _, .cons _ r => congrArg (· + 1) r.length
end

/-- a local's value: data that may be shared, or an object of its own -/
inductive RV where
  | d (x : D) | olst (xs : List D) | odic (kvs : List (Key × D)) | oins (c : Str) (fs : List (Str × D))
def RV.own : RV → Bool
  | .d _ => false
  | _ => true
/-- as data -/
def RV.fz : RV → D
  | .d x => x
  | .olst xs => .lst xs
  | .odic kvs => .dic kvs
  | .oins c fs => .ins c fs
abbrev En := List (Option RV)

def Own (K : PySem.W.Frag) (mg : Str → Option Value) (Hs H : Hp) (v : V) : RV → Prop
  | .d x => Rep K mg Hs v x
  | .olst xs => ∃ a vs, v = .ref a ∧ H a = some (.lst vs) ∧ Hs a = none ∧ Reps K mg Hs vs xs
  | .odic kvs => ∃ a ks, v = .ref a ∧ H a = some (.dK ks) ∧ Hs a = none ∧ RepK K mg Hs ks kvs
  | .oins c fs => ∃ a C dx gs, v = .ref a ∧ mg c = some (.ref C) ∧ H a = some (.ins C dx gs) ∧ Hs a = none ∧ RepF K mg Hs gs fs

structure EnvOk (K : PySem.W.Frag) (mg : Str → Option Value) (Hs H : Hp) (σ : L2.St) (env : En) : Prop where
  sub : Same Hs H
  len : σ.length = env.length
  at_ : ∀ (i : Nat) (rv : RV), env[i]? = some (some rv) → ∃ v, σ[i]? = some (some v) ∧ Own K mg Hs H v rv
  sep : ∀ (i j : Nat) (rv rv' : RV) (a : Addr), i ≠ j → env[i]? = some (some rv) → env[j]? = some (some rv') → rv.own = true → rv'.own = true → σ[i]? = some (some (.ref a)) → σ[j]? = some (some (.ref a)) → False

/-- the addresses of the locals' own objects -/
def Ft (σ : L2.St) (env : En) (b : Addr) : Prop := ∃ (i : Nat) (rv : RV), env[i]? = some (some rv) ∧ rv.own = true ∧ σ[i]? = some (some (.ref b))

/-- from (Hs, H) to (Hs', H') where the objects at F may be changed -/
structure T (F : Addr → Prop) (Hs H Hs' H' : Hp) : Prop where
  same : Same Hs Hs'
  frame : ∀ b o, H b = some o → ¬ F b → H' b = some o
  dom : ∀ b, H' b = none → H b = none
  shr : ∀ b, Hs' b ≠ none → Hs b ≠ none ∨ F b ∨ H b = none
theorem T.refl {F : Addr → Prop} {Hs H : Hp} : T F Hs H Hs H := ⟨Same.refl _, fun _ _ h _ => h, fun _ h => h, fun _ h => .inl h⟩
theorem T.trans {F F1 : Addr → Prop} {Hs H Hs1 H1 Hs2 H2 : Hp} (a : T F Hs H Hs1 H1) (b : T F1 Hs1 H1 Hs2 H2) (f : ∀ b, F1 b → F b ∨ H b = none) : T F Hs H Hs2 H2 := by
  refine ⟨a.same.trans b.same, fun c o h nf => ?_, fun c h => a.dom c (b.dom c h), fun c h => ?_⟩
  · refine b.frame c o (a.frame c o h nf) fun q => ?_
    rcases f c q with z | z
    · exact nf z
    · rw [h] at z; cases z
  · rcases b.shr c h with z | z | z
    · exact a.shr c z
    · rcases f c z with z | z
      · exact .inr (.inl z)
      · exact .inr (.inr z)
    · exact .inr (.inr (a.dom c z))
theorem T.mono {F F1 : Addr → Prop} {Hs H Hs1 H1 : Hp} (a : T F Hs H Hs1 H1) (f : ∀ b, F b → F1 b ∨ H b = none) : T F1 Hs H Hs1 H1 := T.refl.trans a f

/-- what env' owns, env owns (at the same places) -/
def Sub (env env' : En) : Prop := ∀ (i : Nat) (rv' : RV), env'[i]? = some (some rv') → rv'.own = true → ∃ rv, env[i]? = some (some rv) ∧ rv.own = true
theorem Sub.refl {env : En} : Sub env env := fun i rv h o => ⟨rv, h, o⟩
theorem Sub.trans {a b c : En} (h : Sub a b) (g : Sub b c) : Sub a c := fun i rv e o => by
  obtain ⟨r, e1, o1⟩ := g i rv e o
  exact h i r e1 o1
theorem Sub.ft {σ : L2.St} {env env' : En} (h : Sub env env') {b : Addr} (f : Ft σ env' b) : Ft σ env b := by
  obtain ⟨i, rv, e, o, s⟩ := f
  obtain ⟨r, e1, o1⟩ := h i rv e o
  exact ⟨i, r, e1, o1, s⟩

section
variable {K : PySem.W.Frag} {mg : Str → Option Value} {Hs H Hs' H' : Hp} {σ : L2.St} {env env' : En} {v : V} {rv : RV}
/-- an own object's address -/
theorem Own.addr (h : Own K mg Hs H v rv) (o : rv.own = true) : ∃ a, v = .ref a ∧ Hs a = none ∧ H a ≠ none := by
  cases rv with
  | d x => cases o
  | olst xs => obtain ⟨a, vs, e, h1, h2, _⟩ := h; exact ⟨a, e, h2, by rw [h1]; simp⟩
  | odic xs => obtain ⟨a, vs, e, h1, h2, _⟩ := h; exact ⟨a, e, h2, by rw [h1]; simp⟩
  | oins c xs => obtain ⟨a, C, dx, gs, e, _, h1, h2, _⟩ := h; exact ⟨a, e, h2, by rw [h1]; simp⟩
/-- where its own object is left alone -/
theorem Own.keep {F : Addr → Prop} (h : Own K mg Hs H v rv) (t : T F Hs H Hs' H') (n : rv.own = true → ∀ a, v = .ref a → ¬ F a) : Own K mg Hs' H' v rv := by
  cases rv with
  | d x => exact Rep.mono t.same h
  | olst xs =>
    obtain ⟨a, vs, e, h1, h2, r⟩ := h
    refine ⟨a, vs, e, t.frame a _ h1 (n rfl a e), ?_, r.mono t.same⟩
    cases q : Hs' a with
    | none => rfl
    | some o =>
      rcases t.shr a (by rw [q]; simp) with z | z | z
      · exact absurd h2 z
      · exact absurd z (n rfl a e)
      · rw [h1] at z; cases z
  | odic xs =>
    obtain ⟨a, vs, e, h1, h2, r⟩ := h
    refine ⟨a, vs, e, t.frame a _ h1 (n rfl a e), ?_, r.mono t.same⟩
    cases q : Hs' a with
    | none => rfl
    | some o =>
      rcases t.shr a (by rw [q]; simp) with z | z | z
      · exact absurd h2 z
      · exact absurd z (n rfl a e)
      · rw [h1] at z; cases z
  | oins c xs =>
    obtain ⟨a, C, dx, gs, e, hm, h1, h2, r⟩ := h
    refine ⟨a, C, dx, gs, e, hm, t.frame a _ h1 (n rfl a e), ?_, r.mono t.same⟩
    cases q : Hs' a with
    | none => rfl
    | some o =>
      rcases t.shr a (by rw [q]; simp) with z | z | z
      · exact absurd h2 z
      · exact absurd z (n rfl a e)
      · rw [h1] at z; cases z
/-- an own object becomes shared -/
def addS (Hs H : Hp) (a : Addr) : Hp := fun b => if b = a then H a else Hs b
theorem addS_same {a : Addr} (s : Same Hs H) (n : Hs a = none) : Same Hs (addS Hs H a) ∧ Same (addS Hs H a) H := by
  constructor
  · intro b o h
    unfold addS
    by_cases e : b = a
    · subst e; rw [n] at h; cases h
    · rw [if_neg e]; exact h
  · intro b o h
    unfold addS at h
    by_cases e : b = a
    · subst e; rw [if_pos rfl] at h; exact h
    · rw [if_neg e] at h; exact s _ _ h
theorem addS_at {a : Addr} : addS Hs H a a = H a := by unfold addS; rw [if_pos rfl]
/-- a step that the proof may take by itself: something is locked for good -/
def GhP (H : Hp) (P : Hp → Prop) : Prop := P H ∨ ∃ d u, H d = some u ∧ Mut (some u) ∧ ∀ od, P (upd H d (.frz od u))
theorem GhP.imp {H : Hp} {P P' : Hp → Prop} (h : GhP H P) (i : ∀ H', P H' → P' H') : GhP H P' := by
  rcases h with h | ⟨d, u, e, m, h⟩
  · exact .inl (i _ h)
  · exact .inr ⟨d, u, e, m, fun od => i _ (h od)⟩
theorem addS_same' {H' : Hp} {a : Addr} (s : Same Hs H) (n : Hs a = none) (e : ∀ b, b ≠ a → H' b = H b) : Same Hs (addS Hs H' a) ∧ Same (addS Hs H' a) H' := by
  constructor
  · intro b o h
    unfold addS
    by_cases e : b = a
    · subst e; rw [n] at h; cases h
    · rw [if_neg e]; exact h
  · intro b o h
    unfold addS at h
    by_cases eb : b = a
    · subst eb; rw [if_pos rfl] at h; exact h
    · rw [if_neg eb] at h; rw [e b eb]; exact s _ _ h
theorem Own.freeze (h : Own K mg Hs H v rv) (s : Same Hs H) (o : rv.own = true) : ∃ a, v = .ref a ∧ Hs a = none ∧ ∀ P : Hp → Prop,
    (∀ H', (∀ b, b ≠ a → H' b = H b) → H' a ≠ none → Rep K mg (addS Hs H' a) v rv.fz → P H') → GhP H P := by
  cases rv with
  | d x => cases o
  | olst xs =>
    obtain ⟨a, vs, e, h1, h2, r⟩ := h
    subst e
    exact ⟨a, rfl, h2, fun P p => .inl (p H (fun _ _ => rfl) (by rw [h1]; exact fun z => nomatch z) (.lst (by rw [addS_at]; exact h1) (r.mono (addS_same s h2).1)))⟩
  | odic xs =>
    obtain ⟨a, vs, e, h1, h2, r⟩ := h
    subst e
    refine ⟨a, rfl, h2, fun P p => .inr ⟨a, _, h1, trivial, fun od => p _ (fun b hb => upd_ne hb) (by rw [upd_same]; exact fun z => nomatch z) ?_⟩⟩
    exact .dic (by rw [addS_at, upd_same]) (r.mono (addS_same' s h2 fun b hb => upd_ne hb).1)
  | oins c xs =>
    obtain ⟨a, C, dx, gs, e, hm, h1, h2, r⟩ := h
    subst e
    exact ⟨a, rfl, h2, fun P p => .inl (p H (fun _ _ => rfl) (by rw [h1]; exact fun z => nomatch z) (.ins hm (by rw [addS_at]; exact h1) (r.mono (addS_same s h2).1)))⟩
theorem EnvOk.ne (ok : EnvOk K mg Hs H σ env) {i j : Nat} {rv rv' : RV} {a b : Addr} (hij : i ≠ j) (h1 : env[i]? = some (some rv)) (h2 : env[j]? = some (some rv')) (o1 : rv.own = true) (o2 : rv'.own = true)
    (s1 : σ[i]? = some (some (.ref a))) (s2 : σ[j]? = some (some (.ref b))) : a ≠ b := fun e => by
  subst e; exact ok.sep i j rv rv' a hij h1 h2 o1 o2 s1 s2
/-- an own object's address is not elsewhere shared -/
theorem EnvOk.ftNone (ok : EnvOk K mg Hs H σ env) {b : Addr} (f : Ft σ env b) : Hs b = none ∧ H b ≠ none := by
  obtain ⟨i, rv, e, o, s⟩ := f
  obtain ⟨v, s1, w⟩ := ok.at_ i rv e
  rw [s] at s1; cases s1
  obtain ⟨a, ea, h1, h2⟩ := w.addr o
  cases ea
  exact ⟨h1, h2⟩
/-- nothing of env's is changed -/
theorem EnvOk.keep {F : Addr → Prop} (ok : EnvOk K mg Hs H σ env) (t : T F Hs H Hs' H') (s : Same Hs' H') (n : ∀ b, F b → ¬ Ft σ env b) : EnvOk K mg Hs' H' σ env := by
  refine ⟨s, ok.len, fun i rv e => ?_, ok.sep⟩
  obtain ⟨v, s1, w⟩ := ok.at_ i rv e
  refine ⟨v, s1, w.keep t fun o a ea f => n a f ⟨i, rv, e, o, by rw [← ea]; exact s1⟩⟩
/-- new objects only -/
theorem T.new {Hs H Hs' H' : Hp} {F : Addr → Prop} (s1 : Same Hs Hs') (s2 : Same H H') (h : ∀ b, Hs' b ≠ none → Hs b ≠ none ∨ H b = none) : T F Hs H Hs' H' :=
  ⟨s1, fun b o e _ => s2 b o e, fun b e => (by
    cases q : H b with
    | none => rfl
    | some o => rw [s2 b o q] at e; cases e), fun b e => (h b e).imp id Or.inr⟩
/-- slot i is set -/
theorem EnvOk.set {i : Nat} {rv : RV} {v : V} (ok : EnvOk K mg Hs H σ env) (w : Own K mg Hs H v rv) (n : rv.own = true → ∀ a, v = .ref a → ∀ (j : Nat), j ≠ i → ∀ (r : RV), env[j]? = some (some r) → r.own = true → σ[j]? ≠ some (some (.ref a))) :
    EnvOk K mg Hs H (σ.set i (some v)) (env.set i (some rv)) := by
  refine ⟨ok.sub, by rw [List.length_set, List.length_set]; exact ok.len, fun j r e => ?_, fun j k r r' a hjk e1 e2 o1 o2 s1 s2 => ?_⟩
  · by_cases hj : j = i
    · subst hj
      have hl : j < env.length := by
        have := List.getElem?_eq_some_iff.mp e
        obtain ⟨h, _⟩ := this
        simpa using h
      rw [List.getElem?_set_self hl] at e
      cases e
      exact ⟨v, by rw [List.getElem?_set_self (by rw [ok.len]; exact hl)], w⟩
    · rw [List.getElem?_set_ne (Ne.symm hj)] at e
      obtain ⟨v', s, w'⟩ := ok.at_ j r e
      exact ⟨v', by rw [List.getElem?_set_ne (Ne.symm hj)]; exact s, w'⟩
  · have lt : ∀ (j : Nat) (r : RV), (env.set i (some rv))[j]? = some (some r) → j < env.length := fun j r e => by
      obtain ⟨h, _⟩ := List.getElem?_eq_some_iff.mp e
      simpa using h
    by_cases hj : j = i
    · subst hj
      have hl := lt _ _ e1
      rw [List.getElem?_set_self hl] at e1
      rw [List.getElem?_set_self (by rw [ok.len]; exact hl)] at s1
      rw [List.getElem?_set_ne hjk] at e2 s2
      cases e1; cases s1
      exact n o1 a rfl k (Ne.symm hjk) r' e2 o2 s2
    · rw [List.getElem?_set_ne (Ne.symm hj)] at e1 s1
      by_cases hk : k = i
      · subst hk
        have hl := lt _ _ e2
        rw [List.getElem?_set_self hl] at e2
        rw [List.getElem?_set_self (by rw [ok.len]; exact hl)] at s2
        cases e2; cases s2
        exact n o2 a rfl j hj r e1 o1 s1
      · rw [List.getElem?_set_ne (Ne.symm hk)] at e2 s2
        exact ok.sep j k r r' a hjk e1 e2 o1 o2 s1 s2
/-- slot i's content is changed, its value is as it was -/
theorem EnvOk.put {i : Nat} {rv rv0 : RV} {v : V} {Hs' H' : Hp} (ok : EnvOk K mg Hs H σ env) (e0 : env[i]? = some (some rv0)) (o0 : rv.own = true → rv0.own = true) (s0 : σ[i]? = some (some v)) (t : T (fun b => rv0.own = true ∧ v = .ref b) Hs H Hs' H') (sb : Same Hs' H')
    (w : Own K mg Hs' H' v rv) : EnvOk K mg Hs' H' σ (env.set i (some rv)) ∧ Sub env (env.set i (some rv)) := by
  have hl : i < env.length := by
    obtain ⟨h, _⟩ := List.getElem?_eq_some_iff.mp e0
    exact h
  have sub : Sub env (env.set i (some rv)) := fun j r e o => by
    by_cases hj : j = i
    · subst hj
      rw [List.getElem?_set_self hl] at e
      cases e
      exact ⟨rv0, e0, o0 o⟩
    · rw [List.getElem?_set_ne (Ne.symm hj)] at e
      exact ⟨r, e, o⟩
  refine ⟨⟨sb, by rw [List.length_set]; exact ok.len, fun j r e => ?_, fun j k r r' a hjk e1 e2 o1 o2 s1 s2 => ?_⟩, sub⟩
  · by_cases hj : j = i
    · subst hj
      rw [List.getElem?_set_self hl] at e
      cases e
      exact ⟨v, s0, w⟩
    · rw [List.getElem?_set_ne (Ne.symm hj)] at e
      obtain ⟨v', s, w'⟩ := ok.at_ j r e
      refine ⟨v', s, w'.keep t fun o a ea f => ?_⟩
      obtain ⟨f1, f2⟩ := f
      subst ea f2
      exact ok.sep j i r rv0 a hj e e0 o f1 s s0
  · obtain ⟨q1, e1', o1'⟩ := sub j r e1 o1
    obtain ⟨q2, e2', o2'⟩ := sub k r' e2 o2
    exact ok.sep j k q1 q2 a hjk e1' e2' o1' o2' s1 s2
end
end Mp
namespace Mp
open PySem PySem.Spec PyProof.Rows L2
/-! ### what the head is asked -/
abbrev Tag := String ⊕ Str
abbrev FB := PySem.W.Frag → Bool
def obM (fb : List FB) (fn : List He5.DefA) (K : PySem.W.Frag) : Bool × He.AlD := (fb.all (fun f => f K), He5.obsA [] fn K)
def vaM (fn : List He5.DefA) : Bool × He.AlD := (true, He5.valA fn)
def frM (n : Nat) (g : Addr → Option Obj) : PySem.W.Frag := He.frG g (He5.asA g n)
def obG (n : Nat) (fb : List FB) (fn : List He5.DefA) (g : Addr → Option Obj) : Bool × He.AlD := obM fb fn (frM n g)
def hkM (n : Nat) (fb : List FB) (fn : List He5.DefA) : PySem.W.Hook where
  α := Bool × He.AlD
  obs := fun s => obG n fb fn s.heap.get?
  val := fun _ => vaM fn
  says := fun _ h => ∃ K : PySem.W.Frag, K.In h ∧ obM fb fn K = vaM fn
  of := fun _ _ e => ⟨_, He.frG_in, e⟩
  keeps := fun _ _ _ z k => by obtain ⟨K, hK, q⟩ := z; exact ⟨K, PySem.W.Frag.In.keeps hK k, q⟩
theorem obG_eq {n : Nat} {fb : List FB} {fn : List He5.DefA} {g : Addr → Option Obj} {s : Shared} (h : ∀ a, g a = s.heap.get? a) : obG n fb fn g = (hkM n fb fn).obs s := by
  have e := funext h
  subst e; rfl
abbrev bFree (x : Str) : FB := fun K => (He.Fa.free x).ok K
abbrev bGlo (x : Str) : FB := fun K => (He.Fa.glo x).ok K
abbrev bCls (x : Str) : FB := fun K => (He.Fa.cls x).ok K
abbrev bNoat (x f : Str) : FB := fun K => (He.Fa.noat x f).ok K
abbrev bMeth (x m : Str) : FB := fun K => (He.Fa.meth x m).ok K
abbrev bMkr (x : Str) : FB := fun K => (He.Fa.mkr x).ok K
abbrev bRd (x : Str) : FB := fun K => PySem.W.readsIn K (He.ga K x) (.type "type") && He.eqO (PySem.W.specialIn K (.ref (He.ga K x)) "__getattribute__") (some (some (.builtin "type.__getattribute__")))
abbrev bSta (x m : Str) : FB := fun K => He5.wrapB K (He.ga K x) "staticmethod" "staticmethod.__get__" m && (PySem.W.handedIn (.ref (He5.wf K (He.ga K x) "staticmethod" m)) && PySem.W.keepIn K (.ref (He5.wf K (He.ga K x) "staticmethod" m)))
abbrev bProp (x m : Str) : FB := fun K => He.eqO (PySem.W.findIn K (.ref (He.ga K x)) m) (some (some (.ref (He.ma K (He.ga K x) m)))) && (He.eqO (PySem.W.specialIn K (.ref (He.ma K (He.ga K x) m)) "__get__") (some (some (.builtin "property.__get__"))) &&
  (decide (PySem.W.takesIn K (.ref (He.ma K (He.ga K x) m)) = some true) && (match PySem.W.recIn K (He.ma K (He.ga K x) m) "property" with | some (.ref _ :: _) => true | _ => false)))
mutual
/-- whether a value of the written part is d -/
def repB (K : PySem.W.Frag) : D → Value → Bool
  | .non, .none => true
  | .bl b, .bool c => b == c
  | .int i, .int j _ => decide (i = j)
  | .str x, .str y _ => decide (x = y)
  | .tup ds, .ref a => (match K.lookup a with
    | some ⟨.type c, _, .seq its _, _⟩ => decide (c = "tuple") && (decide (its.size ≤ sizeLine) && repBs K ds its.toList)
    | _ => false)
  | _, _ => false
def repBs (K : PySem.W.Frag) : List D → List Value → Bool
  | [], [] => true
  | d :: ds, v :: vs => repB K d v && repBs K ds vs
  | _, _ => false
end
abbrev bCon (x : Str) (d : D) : FB := fun K => match PySem.W.nsIn K mainGlobals x with
  | some (some u) => repB K d u
  | _ => false
abbrev bVal (x f : Str) (d : D) : FB := fun K => match PySem.W.findCls K (.ref (He.ga K x)) (.type "type") f with
  | some (.val u) => repB K d u
  | _ => false
def tagV (K : PySem.W.Frag) : Tag → Value
  | .inl n => .type n
  | .inr x => .ref (He.ga K x)
abbrev bTy (x : Str) : FB := fun K => (He.Fa.cls x).ok K && (He.eqO (PySem.W.findIn K (.ref (He.ga K x)) "__class__") (some (some (.builtin "object.__class__"))) && (He.eqO (PySem.W.specialIn K (.builtin "object.__class__") "__get__") (some (some (.builtin "getset_descriptor.__get__"))) &&
  (decide (PySem.W.takesIn K (.builtin "object.__class__") = some true) && decide (PySem.W.mroIn K (He.ga K x) (.type "object") = some true))))
def tagX : Tag → List Str
  | .inl _ => []
  | .inr x => [x]
abbrev bIsi (tb : List (Tag × Tag × Bool)) : FB := fun K => tb.all fun p => decide (PySem.W.kitOne K (tagV K p.1) (tagV K p.2.1) = some p.2.2) && ((tagX p.1 ++ tagX p.2.1).all fun x => bGlo x K) && ((tagX p.1).all fun x => bTy x K)
end Mp
namespace Mp
open PySem PySem.Spec PyProof.Rows L2
abbrev c_GREATEST_NUMBER : D := (.int 999999)
abbrev c_LETTERS : D := (.str "abcdefghijklmnopqrstuvwxyz")
abbrev c_MOST_CHARACTERS : D := (.int 60)
abbrev c_TOP : D := (.int 1000000000000000000)
abbrev c_MOST_FIELDS : D := (.int 80)
abbrev c_CHANGES : D := (.tup [(.str "add"), (.str "offer"), (.str "drop"), (.str "retire"), (.str "need"), (.str "ease"), (.str "preset"), (.str "widen"), (.str "narrow"), (.str "recode"), (.str "swap"), (.str "reuse"), (.str "move")])
abbrev c_BACK : D := (.tup [(.str "add"), (.str "need"), (.str "preset"), (.str "narrow"), (.str "recode"), (.str "swap"), (.str "reuse"), (.str "move")])
abbrev cd_Kind_ALL : D := (.tup [(.str "small"), (.str "whole"), (.str "signed"), (.str "text")])
abbrev cd_Kind_TEXT : D := (.str "text")
abbrev cd_Kind_SMALL : D := (.str "small")
abbrev cd_Kind_WHOLE : D := (.str "whole")
abbrev cd_Kind_SIGNED : D := (.str "signed")
def tb_isi0 : List (Tag × Tag × Bool) := [(.inl "NoneType", .inr "Field", false), (.inl "NoneType", .inr "Plan", false), (.inl "NoneType", .inl "bool", false), (.inl "NoneType", .inl "int", false), (.inl "NoneType", .inl "str", false), (.inl "NoneType", .inl "tuple", false), (.inl "bool", .inr "Field", false), (.inl "bool", .inr "Plan", false), (.inl "bool", .inl "bool", true), (.inl "bool", .inl "int", true), (.inl "bool", .inl "str", false), (.inl "bool", .inl "tuple", false), (.inl "int", .inr "Field", false), (.inl "int", .inr "Plan", false), (.inl "int", .inl "bool", false), (.inl "int", .inl "int", true), (.inl "int", .inl "str", false), (.inl "int", .inl "tuple", false), (.inl "str", .inr "Field", false), (.inl "str", .inr "Plan", false)]
def tb_isi1 : List (Tag × Tag × Bool) := [(.inl "str", .inl "bool", false), (.inl "str", .inl "int", false), (.inl "str", .inl "str", true), (.inl "str", .inl "tuple", false), (.inl "list", .inr "Field", false), (.inl "list", .inr "Plan", false), (.inl "list", .inl "bool", false), (.inl "list", .inl "int", false), (.inl "list", .inl "str", false), (.inl "list", .inl "tuple", false), (.inl "tuple", .inr "Field", false), (.inl "tuple", .inr "Plan", false), (.inl "tuple", .inl "bool", false), (.inl "tuple", .inl "int", false), (.inl "tuple", .inl "str", false), (.inl "tuple", .inl "tuple", true), (.inl "dict", .inr "Field", false), (.inl "dict", .inr "Plan", false), (.inl "dict", .inl "bool", false), (.inl "dict", .inl "int", false)]
def tb_isi2 : List (Tag × Tag × Bool) := [(.inl "dict", .inl "str", false), (.inl "dict", .inl "tuple", false), (.inr "Edition", .inr "Field", false), (.inr "Edition", .inr "Plan", false), (.inr "Edition", .inl "bool", false), (.inr "Edition", .inl "int", false), (.inr "Edition", .inl "str", false), (.inr "Edition", .inl "tuple", false), (.inr "Field", .inr "Field", true), (.inr "Field", .inr "Plan", false), (.inr "Field", .inl "bool", false), (.inr "Field", .inl "int", false), (.inr "Field", .inl "str", false), (.inr "Field", .inl "tuple", false), (.inr "Plan", .inr "Field", false), (.inr "Plan", .inr "Plan", true), (.inr "Plan", .inl "bool", false), (.inr "Plan", .inl "int", false), (.inr "Plan", .inl "str", false), (.inr "Plan", .inl "tuple", false)]
def tb_isi : List (Tag × Tag × Bool) := tb_isi0 ++ tb_isi1 ++ tb_isi2
end Mp
namespace Mp
open PySem PySem.Spec PyProof.Rows L2
def top (i : Nat) : Stmt := PySem.Challenge.pw_letineditions_k79_whole_plans_or_cells.main.body.getD i (.Pass ⟨0, 0, 0, 0⟩)
def clsAt (s : Stmt) (j : Nat) : Stmt := match s with
  | .ClassDef _ _ _ b _ _ _ _ _ _ _ => b.getD j (.Pass ⟨0, 0, 0, 0⟩)
  | s => s
abbrev st_law_deck : Stmt := (top 48)
abbrev st_law_draw : Stmt := (top 49)
abbrev st_law_pick : Stmt := (top 50)
abbrev st_law_word : Stmt := (top 51)
abbrev st_law_pool : Stmt := (top 52)
abbrev st_law_field : Stmt := (top 53)
abbrev st_law_start : Stmt := (top 54)
abbrev st_law_next : Stmt := (top 55)
abbrev st_law_chain : Stmt := (top 57)
abbrev st_is_integer : Stmt := (top 4)
abbrev st_is_word : Stmt := (top 28)
abbrev st_Kind_holds : Stmt := (clsAt (top 5) 5)
abbrev st_Field_init : Stmt := (clsAt (top 31) 0)
abbrev st_clashes : Stmt := (top 36)
abbrev st_inserted : Stmt := (top 35)
abbrev st_Edition_init : Stmt := (clsAt (top 37) 0)
abbrev st_law_edition : Stmt := (top 56)
abbrev st_by_number : Stmt := (top 14)
abbrev st_moved : Stmt := (top 15)
abbrev st_come : Stmt := (top 12)
abbrev st_left : Stmt := (top 11)
abbrev st_kind_changes : Stmt := (top 9)
abbrev st_kept_changes : Stmt := (top 10)
abbrev st_field_changes : Stmt := (top 13)
abbrev st_changes : Stmt := (top 16)
abbrev st_reads : Stmt := (top 39)
abbrev st_good_pairs : Stmt := (top 42)
abbrev st_finishing_pairs : Stmt := (top 43)
abbrev st_first_steps : Stmt := (top 44)
abbrev st_Plan_init : Stmt := (clsAt (top 41) 0)
abbrev st_reached_pairs : Stmt := (top 45)
abbrev st_plan : Stmt := (top 46)
abbrev st_law_plan : Stmt := (top 65)
abbrev st_law_homes : Stmt := (top 58)
abbrev st_law_kept : Stmt := (top 59)
abbrev st_law_changes : Stmt := (top 60)
abbrev st_law_reads : Stmt := (top 61)
abbrev st_law_table : Stmt := (top 62)
abbrev st_Plan_is_possible : Stmt := (clsAt (top 41) 1)
abbrev st_law_walked : Stmt := (top 63)
abbrev st_law_shut : Stmt := (top 64)
abbrev st_law_right : Stmt := (top 66)
abbrev st_law : Stmt := (top 67)
def da_law_deck : He5.DefA := ⟨fun K => He.ga K "_law_deck", "_law_deck", "_law_deck", defArgs st_law_deck, defBody st_law_deck, defScope st_law_deck, [], []⟩
def da_law_draw : He5.DefA := ⟨fun K => He.ga K "_law_draw", "_law_draw", "_law_draw", defArgs st_law_draw, defBody st_law_draw, defScope st_law_draw, [], []⟩
def da_law_pick : He5.DefA := ⟨fun K => He.ga K "_law_pick", "_law_pick", "_law_pick", defArgs st_law_pick, defBody st_law_pick, defScope st_law_pick, [], []⟩
def da_law_word : He5.DefA := ⟨fun K => He.ga K "_law_word", "_law_word", "_law_word", defArgs st_law_word, defBody st_law_word, defScope st_law_word, [], []⟩
def da_law_pool : He5.DefA := ⟨fun K => He.ga K "_law_pool", "_law_pool", "_law_pool", defArgs st_law_pool, defBody st_law_pool, defScope st_law_pool, [], []⟩
def da_law_field : He5.DefA := ⟨fun K => He.ga K "_law_field", "_law_field", "_law_field", defArgs st_law_field, defBody st_law_field, defScope st_law_field, [], []⟩
def da_law_start : He5.DefA := ⟨fun K => He.ga K "_law_start", "_law_start", "_law_start", defArgs st_law_start, defBody st_law_start, defScope st_law_start, [], []⟩
def da_law_next : He5.DefA := ⟨fun K => He.ga K "_law_next", "_law_next", "_law_next", defArgs st_law_next, defBody st_law_next, defScope st_law_next, [], []⟩
def da_law_chain : He5.DefA := ⟨fun K => He.ga K "_law_chain", "_law_chain", "_law_chain", defArgs st_law_chain, defBody st_law_chain, defScope st_law_chain, [], []⟩
def da_is_integer : He5.DefA := ⟨fun K => He.ga K "is_integer", "is_integer", "is_integer", defArgs st_is_integer, defBody st_is_integer, defScope st_is_integer, [], []⟩
def da_is_word : He5.DefA := ⟨fun K => He.ga K "is_word", "is_word", "is_word", defArgs st_is_word, defBody st_is_word, defScope st_is_word, [], []⟩
def da_Kind_holds : He5.DefA := ⟨fun K => He5.wf K (He.ga K "Kind") "staticmethod" "holds", "holds", "Kind.holds", defArgs st_Kind_holds, defBody st_Kind_holds, defScope st_Kind_holds, [], []⟩
def da_Field_init : He5.DefA := ⟨fun K => He.ma K (He.ga K "Field") "__init__", "__init__", "Field.__init__", defArgs st_Field_init, defBody st_Field_init, defScope st_Field_init, [.non], []⟩
def da_clashes : He5.DefA := ⟨fun K => He.ga K "clashes", "clashes", "clashes", defArgs st_clashes, defBody st_clashes, defScope st_clashes, [], []⟩
def da_inserted : He5.DefA := ⟨fun K => He.ga K "inserted", "inserted", "inserted", defArgs st_inserted, defBody st_inserted, defScope st_inserted, [], []⟩
def da_Edition_init : He5.DefA := ⟨fun K => He.ma K (He.ga K "Edition") "__init__", "__init__", "Edition.__init__", defArgs st_Edition_init, defBody st_Edition_init, defScope st_Edition_init, [], []⟩
def da_law_edition : He5.DefA := ⟨fun K => He.ga K "_law_edition", "_law_edition", "_law_edition", defArgs st_law_edition, defBody st_law_edition, defScope st_law_edition, [], []⟩
def da_by_number : He5.DefA := ⟨fun K => He.ga K "by_number", "by_number", "by_number", defArgs st_by_number, defBody st_by_number, defScope st_by_number, [], []⟩
def da_moved : He5.DefA := ⟨fun K => He.ga K "moved", "moved", "moved", defArgs st_moved, defBody st_moved, defScope st_moved, [], []⟩
def da_come : He5.DefA := ⟨fun K => He.ga K "come", "come", "come", defArgs st_come, defBody st_come, defScope st_come, [], []⟩
def da_left : He5.DefA := ⟨fun K => He.ga K "left", "left", "left", defArgs st_left, defBody st_left, defScope st_left, [], []⟩
def da_kind_changes : He5.DefA := ⟨fun K => He.ga K "kind_changes", "kind_changes", "kind_changes", defArgs st_kind_changes, defBody st_kind_changes, defScope st_kind_changes, [], []⟩
def da_kept_changes : He5.DefA := ⟨fun K => He.ga K "kept_changes", "kept_changes", "kept_changes", defArgs st_kept_changes, defBody st_kept_changes, defScope st_kept_changes, [], []⟩
def da_field_changes : He5.DefA := ⟨fun K => He.ga K "field_changes", "field_changes", "field_changes", defArgs st_field_changes, defBody st_field_changes, defScope st_field_changes, [], []⟩
def da_changes : He5.DefA := ⟨fun K => He.ga K "changes", "changes", "changes", defArgs st_changes, defBody st_changes, defScope st_changes, [], []⟩
def da_reads : He5.DefA := ⟨fun K => He.ga K "reads", "reads", "reads", defArgs st_reads, defBody st_reads, defScope st_reads, [], []⟩
def da_good_pairs : He5.DefA := ⟨fun K => He.ga K "good_pairs", "good_pairs", "good_pairs", defArgs st_good_pairs, defBody st_good_pairs, defScope st_good_pairs, [], []⟩
def da_finishing_pairs : He5.DefA := ⟨fun K => He.ga K "finishing_pairs", "finishing_pairs", "finishing_pairs", defArgs st_finishing_pairs, defBody st_finishing_pairs, defScope st_finishing_pairs, [], []⟩
def da_first_steps : He5.DefA := ⟨fun K => He.ga K "first_steps", "first_steps", "first_steps", defArgs st_first_steps, defBody st_first_steps, defScope st_first_steps, [], []⟩
def da_Plan_init : He5.DefA := ⟨fun K => He.ma K (He.ga K "Plan") "__init__", "__init__", "Plan.__init__", defArgs st_Plan_init, defBody st_Plan_init, defScope st_Plan_init, [], []⟩
def da_reached_pairs : He5.DefA := ⟨fun K => He.ga K "reached_pairs", "reached_pairs", "reached_pairs", defArgs st_reached_pairs, defBody st_reached_pairs, defScope st_reached_pairs, [], []⟩
def da_plan : He5.DefA := ⟨fun K => He.ga K "plan", "plan", "plan", defArgs st_plan, defBody st_plan, defScope st_plan, [], [("stored", (.bl false))]⟩
def da_law_plan : He5.DefA := ⟨fun K => He.ga K "_law_plan", "_law_plan", "_law_plan", defArgs st_law_plan, defBody st_law_plan, defScope st_law_plan, [], []⟩
def da_law_homes : He5.DefA := ⟨fun K => He.ga K "_law_homes", "_law_homes", "_law_homes", defArgs st_law_homes, defBody st_law_homes, defScope st_law_homes, [], []⟩
def da_law_kept : He5.DefA := ⟨fun K => He.ga K "_law_kept", "_law_kept", "_law_kept", defArgs st_law_kept, defBody st_law_kept, defScope st_law_kept, [], []⟩
def da_law_changes : He5.DefA := ⟨fun K => He.ga K "_law_changes", "_law_changes", "_law_changes", defArgs st_law_changes, defBody st_law_changes, defScope st_law_changes, [], []⟩
def da_law_reads : He5.DefA := ⟨fun K => He.ga K "_law_reads", "_law_reads", "_law_reads", defArgs st_law_reads, defBody st_law_reads, defScope st_law_reads, [], []⟩
def da_law_table : He5.DefA := ⟨fun K => He.ga K "_law_table", "_law_table", "_law_table", defArgs st_law_table, defBody st_law_table, defScope st_law_table, [], []⟩
def da_Plan_is_possible : He5.DefA := ⟨fun K => He5.wf K (He.ga K "Plan") "property" "is_possible", "is_possible", "Plan.is_possible", defArgs st_Plan_is_possible, defBody st_Plan_is_possible, defScope st_Plan_is_possible, [], []⟩
def da_law_walked : He5.DefA := ⟨fun K => He.ga K "_law_walked", "_law_walked", "_law_walked", defArgs st_law_walked, defBody st_law_walked, defScope st_law_walked, [], []⟩
def da_law_shut : He5.DefA := ⟨fun K => He.ga K "_law_shut", "_law_shut", "_law_shut", defArgs st_law_shut, defBody st_law_shut, defScope st_law_shut, [], []⟩
def da_law_right : He5.DefA := ⟨fun K => He.ga K "_law_right", "_law_right", "_law_right", defArgs st_law_right, defBody st_law_right, defScope st_law_right, [], []⟩
def da_law : He5.DefA := ⟨fun K => He.ga K "law", "law", "law", defArgs st_law, defBody st_law, defScope st_law, [], []⟩
def fnL : List He5.DefA := [da_law_deck, da_law_draw, da_law_pick, da_law_word, da_law_pool, da_law_field, da_law_start, da_law_next, da_law_chain, da_is_integer, da_is_word, da_Kind_holds, da_Field_init, da_clashes, da_inserted, da_Edition_init, da_law_edition, da_by_number, da_moved, da_come, da_left, da_kind_changes, da_kept_changes, da_field_changes, da_changes, da_reads, da_good_pairs, da_finishing_pairs, da_first_steps, da_Plan_init, da_reached_pairs, da_plan, da_law_plan, da_law_homes, da_law_kept, da_law_changes, da_law_reads, da_law_table, da_Plan_is_possible, da_law_walked, da_law_shut, da_law_right, da_law]
def fb0 : List FB := [bFree "len", bFree "min", bFree "max", bFree "range", bFree "int", bFree "abs", bFree "list", bFree "isinstance", bIsi tb_isi, bFree "bool", bCon "GREATEST_NUMBER" c_GREATEST_NUMBER, bFree "str", bCon "LETTERS" c_LETTERS, bFree "all", bGlo "Kind", bRd "Kind", bVal "Kind" "ALL" cd_Kind_ALL, bVal "Kind" "TEXT" cd_Kind_TEXT, bCon "MOST_CHARACTERS" c_MOST_CHARACTERS, bVal "Kind" "SMALL" cd_Kind_SMALL]
def fb1 : List FB := [bVal "Kind" "WHOLE" cd_Kind_WHOLE, bCon "TOP" c_TOP, bGlo "Field", bCls "Field", bNoat "Field" "number", bNoat "Field" "name", bNoat "Field" "kind", bNoat "Field" "preset", bFree "enumerate", bCon "MOST_FIELDS" c_MOST_FIELDS, bFree "any", bFree "tuple", bGlo "Edition", bCls "Edition", bNoat "Edition" "fields", bFree "sorted", bVal "Kind" "SIGNED" cd_Kind_SIGNED, bCon "CHANGES" c_CHANGES, bCon "BACK" c_BACK, bGlo "Plan"]
def fb2 : List FB := [bCls "Plan", bNoat "Plan" "steps", bNoat "Plan" "cells", bGlo "_law_deck", bGlo "_law_draw", bGlo "_law_pick", bGlo "_law_word", bGlo "_law_pool", bGlo "_law_field", bGlo "_law_start", bGlo "_law_next", bGlo "_law_chain", bGlo "is_integer", bGlo "is_word", bSta "Kind" "holds", bMkr "Field", bGlo "clashes", bGlo "inserted", bMkr "Edition", bGlo "_law_edition"]
def fb3 : List FB := [bGlo "by_number", bGlo "moved", bGlo "come", bGlo "left", bGlo "kind_changes", bGlo "kept_changes", bGlo "field_changes", bGlo "changes", bGlo "reads", bGlo "good_pairs", bFree "reversed", bGlo "finishing_pairs", bGlo "first_steps", bMkr "Plan", bGlo "reached_pairs", bGlo "plan", bGlo "_law_plan", bGlo "_law_homes", bGlo "_law_kept", bGlo "_law_changes"]
def fb4 : List FB := [bGlo "_law_reads", bGlo "_law_table", bProp "Plan" "is_possible", bGlo "_law_walked", bGlo "_law_shut", bGlo "_law_right", bGlo "law"]
def fbL : List FB := fb0 ++ fb1 ++ fb2 ++ fb3 ++ fb4
def lo0 : List Str := ["_wall", "TOP", "MOST_CHARACTERS", "is_integer", "Kind", "CHANGES", "BACK", "kind_changes", "kept_changes", "left", "come", "field_changes", "by_number", "moved", "changes", "EditionsError", "WrongField", "WrongEdition", "WrongText", "Unknown"]
def lo1 : List Str := ["Taken", "GREATEST_NUMBER", "LETTERS", "FIGURES", "is_word", "read_digits", "read_preset", "Field", "read_field", "MOST_FIELDS", "inserted", "clashes", "Edition", "reads", "Plan", "good_pairs", "finishing_pairs", "first_steps", "reached_pairs", "plan"]
def lo2 : List Str := ["_law_deck", "_law_draw", "_law_pick", "_law_word", "_law_pool", "_law_field", "_law_start", "_law_next", "_law_edition", "_law_chain", "_law_homes", "_law_kept", "_law_changes", "_law_reads", "_law_table", "_law_walked", "_law_shut", "_law_plan", "_law_right"]
def loL : List Str := lo0 ++ lo1 ++ lo2
abbrev Rw : PySem.W.OpenRow := PySem.W.OpenLaw.row PySem.Challenge.rw_letineditions_k79_whole_plans_or_cells
abbrev hkL : PySem.W.Hook := hkM 5 fbL fnL
def obL (s : PySem.W.SharedT) : Bool × He.AlD := obG 5 fbL fnL (HandSHeadRun.getT s)
theorem obL_eq (s : PySem.W.SharedT) : obL s = hkL.obs s.abs := obG_eq (HandSHeadRun.getT_eq s)
theorem runF (w : World) : HandSHeadRun.RunEq Rw (PySem.W.view Rw.prog [67]) hkL obL 20000 loL (w.withFollow "special-get-raises" false) := by
  intro os
  kernel_rfl
theorem runT (w : World) : HandSHeadRun.RunEq Rw (PySem.W.view Rw.prog [67]) hkL obL 20000 loL (w.withFollow "special-get-raises" true) := by
  intro os
  kernel_rfl
theorem runL (w : World) : HandSHeadRun.RunEq Rw (PySem.W.view Rw.prog [67]) hkL obL 20000 loL w := PySem.W.byRow2 "special-get-raises" runF runT w
end Mp
namespace Mp
open PySem PySem.Spec PyProof.Rows L2

abbrev XE := D → En → Prop
/-- what a def or an operation does with its arguments: the answer and the arguments behind it, or an error -/
abbrev Den := List RV → (RV → List RV → Prop) → (D → List RV → Prop) → Prop
/-- an evaluated argument: a local that owns its object, or a value -/
inductive AV where
  | slot (i : Nat) | rv (r : RV)
def AV.get (env : En) : AV → Option RV
  | .slot i => (env[i]?).join
  | .rv r => some r
def gets (env : En) : List AV → Option (List RV)
  | [] => some []
  | a :: r => match a.get env with
    | some x => (gets env r).map (x :: ·)
    | none => none
def AV.put (env : En) : AV → RV → En
  | .slot i, r => env.set i (some r)
  | .rv _, _ => env
def puts (env : En) : List AV → List RV → En
  | a :: as, r :: rs => puts (a.put env r) as rs
  | _, _ => env
def slots : List AV → List Nat
  | [] => []
  | .slot i :: r => i :: slots r
  | .rv _ :: r => slots r
def callDen (dn : Den) (avs : List AV) (env : En) (K : AV → En → Prop) (E : XE) : Prop :=
  (slots avs).Nodup ∧ ∃ rvs, gets env avs = some rvs ∧ dn rvs (fun r rvs' => K (.rv r) (puts env avs rvs')) (fun x rvs' => E x (puts env avs rvs'))
/-- an item that is kept: shared from now on -/
def frz (av : AV) (env : En) (K : D → En → Prop) : Prop := match av with
  | .slot i => ∃ rv, env[i]? = some (some rv) ∧ K rv.fz (env.set i (some (.d rv.fz)))
  | .rv r => K r.fz env

inductive Lit where
  | non | bl (b : Bool) | int (i : Int) | str (s : Str)
def Lit.d : Lit → D
  | .non => .non
  | .bl b => .bl b
  | .int i => .int i
  | .str s => .str s
inductive Shape where
  | bin (op : Operator) | cmp (op : CmpOp) | un (op : UnaryOp) | sub | attr (f : Str) | call (x : Str) | call0 (x : Str)
/-- targets: a name, a tuple of names -/
inductive Tg where
  | name (i : Nat) | tup (l : List Nat)
mutual
inductive SE where
  | var (i : Nat) | lit (c : Lit) | glo (x : Str) (d : D)
  | prim (sh : Shape) (dn : Den) (args : SEs)
  | meth (ck : D → Prop) (m : Str) (dn : Den) (o : SE) (args : SEs)
  | slice (dn : Den) (a : SE) (lo hi : SEs)
  | boolv (isAnd : Bool) (es : SEs)
  | notv (e : SE)
  | ite (t a b : SE)
  | chain (o1 : CmpOp) (d1 : Den) (o2 : CmpOp) (d2 : Den) (a b c : SE)
  | lst (es : SEs) | tup (es : SEs)
  | lc (own : List Nat) (tg : Tg) (src : Src) (cond : SEs) (elt : SE)
  | lc2 (own own1 : List Nat) (tg : Tg) (src : Src) (cond : SEs) (tg1 : Tg) (src1 : Src) (cond1 : SEs) (elt : SE)
  | dc (own : List Nat) (tg : Tg) (src : Src) (cond : SEs) (k v : SE)
  | dct (args : SEs)
  | star2 (a b : SE) | starkv (a k v : SE)
  | callk (x : Str) (dn : Den) (args : SEs) (ks : List Str) (kargs : SEs)
  | callss (x : Str) (dn : Den) (e : SE)
  | frzv (e : SE)
inductive SEs where
  | nil | cons (e : SE) (r : SEs) | star (e : SE) (r : SEs)
inductive Src where
  | val (e : SE) | rng1 (e : SE) | rng2 (a b : SE) | enm (e : SE) | items (e : SE) | slot (i : Nat)
end
def SEs.len : SEs → Nat
  | .nil => 0
  | .cons _ r => r.len + 1
  | .star _ r => r.len + 1
/-- a source that is a local's own list: it stays as it is while it is walked -/
def Src.hold (s : Src) (xs : List D) (env : En) : Prop := match s with
  | .slot i => env[i]? = some (some (.olst xs))
  | _ => True

def truth : D → Option Bool
  | .non => some false
  | .bl b => some b
  | .int i => some (i != 0)
  | .str s => if s.length ≤ sizeLine then some ((s.length : Int) != 0) else none
  | .lst xs => some (!xs.isEmpty)
  | .tup xs => some (!xs.isEmpty)
  | _ => none
def Tg.slots : Tg → List Nat
  | .name i => [i]
  | .tup l => l
def setAll (env : En) : List Nat → List D → En
  | i :: is, d :: ds => setAll (env.set i (some (.d d))) is ds
  | _, _ => env
/-- a target gets a shared value (its names hold nothing of their own) -/
def bindT (tg : Tg) (x : D) (env : En) : Option En := match tg with
  | .name i => some (env.set i (some (.d x)))
  | .tup l => match x with
    | .tup xs => if xs.length = l.length then some (setAll env l xs) else none
    | _ => none
def wipeE (env : En) : List Nat → En
  | [] => env
  | v :: vs => (wipeE env vs).set v none
/-- behind a block: its own names are as they were -/
def backE (env0 env : En) : List Nat → En
  | [] => env
  | v :: vs => match env0[v]? with
    | some o => (backE env0 env vs).set v o
    | none => backE env0 env vs
def rangeD (lo hi : Int) : List D := (List.range (hi - lo).toNat).map fun k => D.int (lo + (k : Nat))
def chars (s : Str) : List D := s.cps.toList.map fun c => D.str ⟨#[c]⟩
def enumD (xs : List D) : List D := xs.zipIdx.map fun p => D.tup [.int (p.2 : Nat), p.1]
def keyD : Key → D
  | .inl i => .int i
  | .inr s => .str s
def seqOf : D → Option (List D)
  | .lst xs => some xs
  | .tup xs => some xs
  | .str s => some (chars s)
  | _ => none
/-- what a for walks: a dict gives its keys -/
def walkOf : D → Option (List D)
  | .dic kvs => some (kvs.map fun p => keyD p.1)
  | d => seqOf d
def lcLoop (body : D → En → (Option D → En → Prop) → Prop) : List D → List D → En → (List D → En → Prop) → Prop
  | [], acc, env, K => K acc env
  | x :: xs, acc, env, K => body x env fun o env1 => match o with
    | some y => acc.length < sizeLine ∧ lcLoop body xs (acc ++ [y]) env1 K
    | none => lcLoop body xs acc env1 K
/-- a dict's entry put -/
def putD (kvs : List (Key × D)) (k : Key) (v : D) : List (Key × D) :=
  if kvs.any (fun p => decide (p.1 = k)) then kvs.map (fun p => if p.1 = k then (p.1, v) else p) else kvs ++ [(k, v)]
def getD (kvs : List (Key × D)) (k : Key) : Option D := (kvs.find? fun p => decide (p.1 = k)).map (·.2)
def keyOf : D → Option Key
  | .int i => some (.inl i)
  | .str s => some (.inr s)
  | _ => none
def mergeD (kvs more : List (Key × D)) : List (Key × D) := more.foldl (fun acc p => putD acc p.1 p.2) kvs
/-- keys and values, one behind another -/
def pairsD : List D → Option (List (Key × D))
  | [] => some []
  | k :: v :: r => match keyOf k with
    | some ky => (pairsD r).map ((ky, v) :: ·)
    | none => none
  | _ => none
def dcLoop (body : D → En → (Option (Key × D) → En → Prop) → Prop) : List D → List (Key × D) → En → (List (Key × D) → En → Prop) → Prop
  | [], acc, env, K => K acc env
  | x :: xs, acc, env, K => body x env fun o env1 => match o with
    | some y => acc.length < sizeLine ∧ dcLoop body xs (putD acc y.1 y.2) env1 K
    | none => dcLoop body xs acc env1 K
/-- the inner for of a comprehension with two: each outer turn goes on with the list so far -/
def lc2Loop (body : D → List D → En → (List D → En → Prop) → Prop) : List D → List D → En → (List D → En → Prop) → Prop
  | [], acc, env, K => K acc env
  | x :: xs, acc, env, K => body x acc env fun acc1 env1 => lc2Loop body xs acc1 env1 K

/-- the value's meaning and the test's -/
structure DP where
  v : En → (AV → En → Prop) → Prop
  t : En → (Bool → En → Prop) → Prop
def tst (v : En → (AV → En → Prop) → Prop) : En → (Bool → En → Prop) → Prop := fun env K => v env fun av env1 => ∃ rv b, av.get env1 = some rv ∧ truth rv.fz = some b ∧ K b env1
def DP.of (v : En → (AV → En → Prop) → Prop) : DP := ⟨v, tst v⟩
/-- an item that is kept -/
def kept (v : En → (AV → En → Prop) → Prop) (env : En) (K : D → En → Prop) : Prop := v env fun av env1 => frz av env1 K
mutual
def den2 (E : XE) : SE → DP
  | .var i => .of fun env K => ∃ rv, env[i]? = some (some rv) ∧ (match rv with
    | .d x => K (.rv (.d x)) env
    | _ => K (.slot i) env)
  | .lit c => .of fun env K => K (.rv (.d c.d)) env
  | .glo _ d => .of fun env K => K (.rv (.d d)) env
  | .prim sh dn args => ⟨fun env K => denA E args env fun avs env1 => callDen dn avs env1 K E, match sh with
    | .cmp _ => fun env K => denA E args env fun avs env1 => callDen dn avs env1 (fun r env2 => ∃ k, r = .rv (.d (.bl k)) ∧ K k env2) E
    | _ => tst fun env K => denA E args env fun avs env1 => callDen dn avs env1 K E⟩
  | .meth ck _ dn o args => .of fun env K => (den2 E o).v env fun av env1 => (∃ rv, av.get env1 = some rv ∧ ck rv.fz) ∧ denA E args env1 fun avs env2 => callDen dn (av :: avs) env2 K E
  | .slice dn a lo hi => .of fun env K => (den2 E a).v env fun av env1 => denDs E lo env1 fun ls env2 => (∀ d ∈ ls, ∃ i, d = .int i) ∧ denDs E hi env2 fun hs env3 => (∀ d ∈ hs, ∃ i, d = .int i) ∧ callDen dn (av :: (ls ++ hs).map fun d => .rv (.d d)) env3 K E
  | .boolv isAnd es => ⟨denBV E isAnd es, denBT E isAnd es⟩
  | .notv e => ⟨fun env K => kept (den2 E e).v env fun d env1 => ∃ b, d = .bl b ∧ K (.rv (.d (.bl (!b)))) env1, fun env K => (den2 E e).t env fun b env1 => K (!b) env1⟩
  | .ite t a b => ⟨fun env K => (den2 E t).t env fun c env1 => if c = true then (den2 E a).v env1 K else (den2 E b).v env1 K, fun env K => (den2 E t).t env fun c env1 => if c = true then (den2 E a).t env1 K else (den2 E b).t env1 K⟩
  | .chain _ d1 _ d2 a b c => ⟨fun env K => kept (den2 E a).v env fun x env1 => kept (den2 E b).v env1 fun y env2 => callDen d1 [.rv (.d x), .rv (.d y)] env2 (fun r env3 => ∃ k, r = .rv (.d (.bl k)) ∧ (if k = true then
      kept (den2 E c).v env3 (fun z env4 => callDen d2 [.rv (.d y), .rv (.d z)] env4 K E) else K (.rv (.d (.bl false))) env3)) E,
      fun env K => kept (den2 E a).v env fun x env1 => kept (den2 E b).v env1 fun y env2 => callDen d1 [.rv (.d x), .rv (.d y)] env2 (fun r env3 => ∃ k, r = .rv (.d (.bl k)) ∧ (if k = true then
      kept (den2 E c).v env3 (fun z env4 => callDen d2 [.rv (.d y), .rv (.d z)] env4 (fun r' env5 => ∃ k', r' = .rv (.d (.bl k')) ∧ K k' env5) E) else K false env3)) E⟩
  | .lst es => .of fun env K => denDs E es env fun ds env1 => ds.length ≤ sizeLine ∧ K (.rv (.olst ds)) env1
  | .tup es => .of fun env K => denDs E es env fun ds env1 => ds.length ≤ sizeLine ∧ K (.rv (.d (.tup ds))) env1
  | .lc own tg src cond elt => .of fun env K => denSrc E src env fun xs env1 =>
      lcLoop (fun x e K' => src.hold xs e ∧ ∃ e1, bindT tg x (wipeE e own) = some e1 ∧ denC E cond e1 fun b e2 =>
        if b = true then kept (den2 E elt).v e2 fun y e3 => K' (some y) (backE e e3 own) else K' none (backE e e2 own)) xs [] env1 fun acc env2 => src.hold xs env2 ∧ K (.rv (.olst acc)) env2
  | .lc2 own own1 tg src cond tg1 src1 cond1 elt => .of fun env K => denSrc E src env fun xs env1 =>
      lc2Loop (fun x acc e K' => ∃ e1, bindT tg x (wipeE e own) = some e1 ∧ denC E cond e1 fun b e2 =>
        if b = true then denSrc E src1 e2 fun ys e3 =>
          lcLoop (fun y e' K'' => src1.hold ys e' ∧ ∃ e4, bindT tg1 y (wipeE e' own1) = some e4 ∧ denC E cond1 e4 fun b1 e5 =>
            if b1 = true then kept (den2 E elt).v e5 fun z e6 => K'' (some z) (backE e' e6 own1) else K'' none (backE e' e5 own1)) ys acc e3 fun acc1 e7 => src1.hold ys e7 ∧ K' acc1 (backE e e7 own)
        else K' acc (backE e e2 own)) xs [] env1 fun acc env2 => K (.rv (.olst acc)) env2
  | .dc own tg src cond k v => .of fun env K => denSrc E src env fun xs env1 =>
      dcLoop (fun x e K' => ∃ e1, bindT tg x (wipeE e own) = some e1 ∧ denC E cond e1 fun b e2 =>
        if b = true then kept (den2 E k).v e2 fun kd e3 => kept (den2 E v).v e3 fun y e4 => ∃ ky, keyOf kd = some ky ∧ K' (some (ky, y)) (backE e e4 own) else K' none (backE e e2 own)) xs [] env1 fun acc env2 => K (.rv (.odic acc)) env2
  | .dct args => .of fun env K => denDs E args env fun ds env1 => ∃ kvs, pairsD ds = some kvs ∧ kvs.length ≤ 15 ∧ K (.rv (.odic (mergeD [] kvs))) env1
  | .star2 a b => .of fun env K => kept (den2 E a).v env fun x env1 => ∃ k1, x = .dic k1 ∧ k1.length ≤ sizeLine ∧ kept (den2 E b).v env1 fun y env2 => ∃ k2, y = .dic k2 ∧ k1.length + k2.length ≤ sizeLine ∧ K (.rv (.odic (mergeD (mergeD [] k1) k2))) env2
  | .starkv a k v => .of fun env K => kept (den2 E a).v env fun x env1 => ∃ k1, x = .dic k1 ∧ k1.length < sizeLine ∧ kept (den2 E k).v env1 fun y env2 => kept (den2 E v).v env2 fun z env3 => ∃ ky, keyOf y = some ky ∧ K (.rv (.odic (putD (mergeD [] k1) ky z))) env3
  | .callk _ dn args _ kargs => .of fun env K => denA E args env fun avs env1 => denDs E kargs env1 fun ds env2 => avs.length = args.len ∧ ds.length = kargs.len ∧ callDen dn (avs ++ ds.map fun d => .rv (.d d)) env2 K E
  | .frzv e => ⟨fun env K => kept (den2 E e).v env fun x env1 => K (.rv (.d x)) env1, fun _ _ => False⟩
  | .callss _ dn e => .of fun env K => kept (den2 E e).v env fun x env1 => callDen dn [.rv (.d x)] env1 K E
def denBV (E : XE) (isAnd : Bool) : SEs → En → (AV → En → Prop) → Prop
  | .nil, _, _ => False
  | .star _ _, _, _ => False
  | .cons e .nil, env, K => (den2 E e).v env K
  | .cons e r, env, K => (den2 E e).v env fun av env1 => ∃ b, av = .rv (.d (.bl b)) ∧ (if b = isAnd then denBV E isAnd r env1 K else K (.rv (.d (.bl b))) env1)
def denBT (E : XE) (isAnd : Bool) : SEs → En → (Bool → En → Prop) → Prop
  | .nil, _, _ => False
  | .star _ _, _, _ => False
  | .cons e .nil, env, K => (den2 E e).t env K
  | .cons e r, env, K => (den2 E e).t env fun b env1 => if b = isAnd then denBT E isAnd r env1 K else K b env1
/-- arguments -/
def denA (E : XE) : SEs → En → (List AV → En → Prop) → Prop
  | .nil, env, K => K [] env
  | .cons e r, env, K => (den2 E e).v env fun av env1 => denA E r env1 fun avs env2 => K (av :: avs) env2
  | .star _ _, _, _ => False
/-- a display's items -/
def denDs (E : XE) : SEs → En → (List D → En → Prop) → Prop
  | .nil, env, K => K [] env
  | .cons e r, env, K => kept (den2 E e).v env fun d env2 => denDs E r env2 fun ds env3 => K (d :: ds) env3
  | .star e r, env, K => kept (den2 E e).v env fun d env2 => ∃ xs, seqOf d = some xs ∧ (∀ s, d ≠ .str s) ∧ denDs E r env2 fun ds env3 => K (xs ++ ds) env3
/-- a clause's test, or none -/
def denC (E : XE) : SEs → En → (Bool → En → Prop) → Prop
  | .nil, env, K => K true env
  | .cons e _, env, K => (den2 E e).t env K
  | .star _ _, _, _ => False
/-- what is walked -/
def denSrc (E : XE) : Src → En → (List D → En → Prop) → Prop
  | .val e, env, K => kept (den2 E e).v env fun d env2 => ∃ xs, walkOf d = some xs ∧ K xs env2
  | .rng1 e, env, K => kept (den2 E e).v env fun d env2 => ∃ j : Int, d = .int j ∧ (-(2 ^ 62) ≤ j ∧ j < 2 ^ 62) ∧ K (rangeD 0 j) env2
  | .rng2 a b, env, K => kept (den2 E a).v env fun d env2 => kept (den2 E b).v env2 fun d' env3 => ∃ i j : Int, d = .int i ∧ d' = .int j ∧ (-(2 ^ 62) ≤ i ∧ i < 2 ^ 62 ∧ -(2 ^ 62) ≤ j ∧ j < 2 ^ 62) ∧ K (rangeD i j) env3
  | .enm e, env, K => kept (den2 E e).v env fun d env2 => ∃ xs, d = .lst xs ∧ K (enumD xs) env2
  | .items e, env, K => kept (den2 E e).v env fun d env2 => ∃ kvs, d = .dic kvs ∧ K (kvs.map fun p => .tup [keyD p.1, p.2]) env2
  | .slot i, env, K => ∃ xs, env[i]? = some (some (.olst xs)) ∧ K xs env
end
abbrev den (E : XE) (e : SE) := (den2 E e).v
abbrev denT (E : XE) (e : SE) := (den2 E e).t
abbrev denD (E : XE) (e : SE) := kept (den2 E e).v

/-! ### statements -/
structure DE where
  nx : En → Prop
  rt : RV → En → Prop
  bk : En → Prop := fun _ => False
  ct : En → Prop := fun _ => False
mutual
inductive SS where
  | expr (e : SE)
  | assign (i : Nat) (e : SE)
  | assignT (l : List Nat) (e : SE)
  | par (swap : Bool) (l : List Nat) (es : SEs)
  | parO (swap : Bool) (l : List Nat) (es : SEs)
  | setattr (c : Str) (i : Nat) (f : Str) (e : SE)
  | setsub (i : Nat) (ix : SE) (e : SE)
  | aug (i : Nat) (op : Operator) (dn : Den) (e : SE)
  | ret (e : SE) | retN
  | ifs (t : SE) (a b : SSs)
  | for_ (tg : Tg) (src : Src) (body : SSs)
  | while_ (t : SE) (body : SSs)
  | pass | brk | cont | never
inductive SSs where
  | nil | cons (s : SS) (r : SSs)
end
def setAllR (env : En) : List Nat → List RV → En
  | i :: is, r :: rs => setAllR (env.set i (some r)) is rs
  | _, _ => env
def putFd (f : Str) (v : D) : List (Str × D) → List (Str × D)
  | [] => [(f, v)]
  | (g, w) :: r => if g = f then (g, v) :: r else (g, w) :: putFd f v r
/-- what is handed on to a name -/
def take (av : AV) (env : En) (K : RV → En → Prop) : Prop := match av with
  | .slot i => ∃ rv, env[i]? = some (some rv) ∧ K (.d rv.fz) (env.set i (some (.d rv.fz)))
  | .rv r => K r env
/-- what is handed back (bor: the parameters that hold an object of the caller's) -/
def give (bor : Nat → Bool) (av : AV) (env : En) (K : RV → En → Prop) : Prop := match av with
  | .slot i => ∃ rv, env[i]? = some (some rv) ∧ (if bor i = false then K rv (env.set i none) else K (.d rv.fz) (env.set i (some (.d rv.fz))))
  | .rv r => K r env
def forLoop (body : D → En → DE → Prop) (D0 : DE) : List D → En → Prop
  | [], env => D0.nx env
  | x :: xs, env => body x env { nx := forLoop body D0 xs, rt := D0.rt, bk := D0.nx, ct := forLoop body D0 xs }
def setsubD (c : RV) (ix v : D) : Option RV := match c with
  | .olst xs => match ix with
    | .int i => (ixN xs.length i).map fun j => .olst (xs.set j v)
    | _ => none
  | .odic kvs => match keyOf ix with
    | some k => if kvs.length < sizeLine then some (.odic (putD kvs k v)) else none
    | none => none
  | _ => none
mutual
def denS (E : XE) (bor : Nat → Bool) : SS → En → DE → Prop
  | .expr e, env, D => den E e env fun _ env1 => D.nx env1
  | .assign i e, env, D => den E e env fun av env1 => take av env1 fun r env2 => bor i = false ∧ D.nx (env2.set i (some r))
  | .assignT l e, env, D => denD E e env fun d env2 => ∃ xs, d = .tup xs ∧ xs.length = l.length ∧ l.all (fun i => !bor i) = true ∧ D.nx (setAll env2 l xs)
  | .par _ l es, env, D => denDs E es env fun ds env1 => ds.length = l.length ∧ l.all (fun i => !bor i) = true ∧ D.nx (setAll env1 l ds)
  | .parO _ l es, env, D => denA E es env fun avs env1 => ∃ rs, avs = rs.map AV.rv ∧ rs.length = l.length ∧ l.all (fun i => !bor i) = true ∧ D.nx (setAllR env1 l rs)
  | .setattr c i f e, env, D => denD E e env fun d env2 => ∃ fs, env2[i]? = some (some (.oins c fs)) ∧ fs.length < 900 ∧ D.nx (env2.set i (some (.oins c (putFd f d fs))))
  | .setsub i ix e, env, D => denD E e env fun d env2 => (∃ c0, env2[i]? = some (some c0)) ∧ denD E ix env2 fun j env4 => ∃ c c', env4[i]? = some (some c) ∧ setsubD c j d = some c' ∧ D.nx (env4.set i (some c'))
  | .aug i _ dn e, env, D => ∃ x, env[i]? = some (some (.d x)) ∧ denD E e env fun d env2 => env2[i]? = some (some (.d x)) ∧ bor i = false ∧ callDen dn [.rv (.d x), .rv (.d d)] env2 (fun r env3 => ∃ z, r = .rv (.d z) ∧ D.nx (env3.set i (some (.d z)))) E
  | .ret e, env, D => den E e env fun av env1 => give bor av env1 D.rt
  | .retN, env, D => D.rt (.d .non) env
  | .ifs t a b, env, D => denT E t env fun c env1 => if c = true then denSs E bor a env1 D else denSs E bor b env1 D
  | .for_ tg src body, env, D => denSrc E src env fun xs env1 => tg.slots.all (fun i => !bor i) = true ∧
      forLoop (fun x e D' => ∃ e1, bindT tg x e = some e1 ∧ denSs E bor body e1 D') D xs env1
  | .while_ t body, env, D => ∃ W : Nat → En → Prop, (∃ n, W n env) ∧ ∀ n env, W n env → denT E t env fun c env1 =>
      if c = true then denSs E bor body env1 { nx := fun e => ∃ m, m < n ∧ W m e, rt := D.rt, bk := D.nx, ct := fun e => ∃ m, m < n ∧ W m e } else D.nx env1
  | .pass, env, D => D.nx env
  | .brk, env, D => D.bk env
  | .cont, env, D => D.ct env
  | .never, _, _ => False
def denSs (E : XE) (bor : Nat → Bool) : SSs → En → DE → Prop
  | .nil, env, D => D.nx env
  | .cons s r, env, D => denS E bor s env { D with nx := fun e => denSs E bor r e D }
end
def borOf (args : List RV) (i : Nat) : Bool := match args[i]? with
  | some r => r.own
  | none => false
/-- the arguments behind a call -/
def behind (args : List RV) (env : En) : List RV := args.zipIdx.map fun p => if p.1.own = true then ((env[p.2]?).join).getD p.1 else p.1
/-- a def: np parameters, n names in all -/
def denF (np n : Nat) (body : SSs) : Den := fun args Q E =>
  args.length = np ∧ denSs (fun x env => E x (behind args env)) (borOf args) body (args.map some ++ List.replicate (n - np) none)
    { nx := fun env => Q (.d .non) (behind args env), rt := fun r env => Q r (behind args env) }
end Mp
namespace Mp
open PySem PySem.Spec PyProof.Rows L2

section
variable {K : PySem.W.Frag} {mg : Str → Option Value} {Hs H Hs' H' H0 : Hp} {σ : L2.St} {env env' : En} {v : V} {rv : RV}

/-- one evaluated argument, its value v -/
def AvOk1 (K : PySem.W.Frag) (mg : Str → Option Value) (H0 Hs H : Hp) (σ : L2.St) (env : En) (v : V) : AV → Prop
  | .slot j => σ[j]? = some (some v) ∧ ∃ rv, env[j]? = some (some rv)
  | .rv r => Own K mg Hs H v r ∧ (r.own = true → ∀ a, v = .ref a → H0 a = none)
/-- several -/
inductive AvsOk (K : PySem.W.Frag) (mg : Str → Option Value) (Hs H : Hp) (σ : L2.St) (env : En) (H0 : Hp) : List V → List AV → Prop where
  | nil : AvsOk K mg Hs H σ env H0 [] []
  | cons {v av vs avs} : AvOk1 K mg H0 Hs H σ env v av → AvsOk K mg Hs H σ env H0 vs avs →
      (∀ r, av = .rv r → r.own = true → ∀ (j : Nat) r', avs[j]? = some (.rv r') → r'.own = true → vs[j]? ≠ some v) → AvsOk K mg Hs H σ env H0 (v :: vs) (av :: avs)

/-- what is a local stays one -/
def Stay (env env' : En) : Prop := ∀ (i : Nat) (rv : RV), env[i]? = some (some rv) → ∃ rv', env'[i]? = some (some rv')
theorem Stay.refl : Stay env env := fun i rv h => ⟨rv, h⟩
theorem Stay.trans {a b c : En} (h : Stay a b) (g : Stay b c) : Stay a c := fun i rv e => by
  obtain ⟨r, e1⟩ := h i rv e
  exact g i r e1
theorem Stay.set {i : Nat} {r : RV} : Stay env (env.set i (some r)) := fun j rv e => by
  by_cases hj : j = i
  · subst hj
    obtain ⟨hl, _⟩ := List.getElem?_eq_some_iff.mp e
    exact ⟨r, List.getElem?_set_self hl⟩
  · exact ⟨rv, by rw [List.getElem?_set_ne (Ne.symm hj)]; exact e⟩
/-- from env to env': the same places are own at most, and filled at least -/
structure Go (env env' : En) : Prop where
  sub : Sub env env'
  stay : Stay env env'
  len : env'.length = env.length
theorem Go.refl : Go env env := ⟨Sub.refl, Stay.refl, rfl⟩
theorem Go.trans {a b c : En} (h : Go a b) (g : Go b c) : Go a c := ⟨h.sub.trans g.sub, h.stay.trans g.stay, g.len.trans h.len⟩

theorem AvOk1.mono {av : AV} {F : Addr → Prop} (h : AvOk1 K mg H0 Hs H σ env v av) (g : Go env env') (t : T F Hs H Hs' H') (ok' : ∀ b, F b → Ft σ env b ∨ H b = none) (ok : EnvOk K mg Hs H σ env) (dm : ∀ b, Ft σ env b → H0 b ≠ none) : AvOk1 K mg H0 Hs' H' σ env' v av := by
  cases av with
  | slot j =>
    obtain ⟨h1, rv, h2⟩ := h
    exact ⟨h1, g.stay j rv h2⟩
  | rv r =>
    obtain ⟨h1, h2⟩ := h
    refine ⟨h1.keep t fun o a ea f => ?_, h2⟩
    obtain ⟨a', e', n1, n2⟩ := h1.addr o
    rw [ea] at e'; cases e'
    rcases ok' a f with z | z
    · exact dm a z (h2 o a ea)
    · exact n2 z

theorem Ft_map {vs : List V} {rvs : List RV} {b : Addr} : Ft (vs.map some) (rvs.map some) b ↔ ∃ (i : Nat) (rv : RV), rvs[i]? = some rv ∧ rv.own = true ∧ vs[i]? = some (.ref b) := by
  unfold Ft
  constructor
  · rintro ⟨i, rv, h1, h2, h3⟩
    exact ⟨i, rv, by simpa using h1, h2, by simpa using h3⟩
  · rintro ⟨i, rv, h1, h2, h3⟩
    exact ⟨i, rv, by simpa using h1, h2, by simpa using h3⟩
theorem gets_length : ∀ {avs : List AV} {rvs : List RV}, gets env avs = some rvs → avs.length = rvs.length
  | [], rvs, h => by cases h; rfl
  | a :: r, rvs, h => by
    unfold gets at h
    cases e : a.get env with
    | none => rw [e] at h; cases h
    | some x =>
      rw [e] at h
      obtain ⟨xs, h1, h2⟩ := Option.map_eq_some_iff.mp h
      subst h2
      exact congrArg (· + 1) (gets_length h1)
theorem gets_at : ∀ {avs : List AV} {rvs : List RV} {i : Nat} {av : AV}, gets env avs = some rvs → avs[i]? = some av → ∃ rv, rvs[i]? = some rv ∧ av.get env = some rv
  | [], _, _, _, _, e => by simp at e
  | a :: r, rvs, i, av, h, e => by
    unfold gets at h
    cases e1 : a.get env with
    | none => rw [e1] at h; cases h
    | some x =>
      rw [e1] at h
      obtain ⟨xs, h1, h2⟩ := Option.map_eq_some_iff.mp h
      subst h2
      cases i with
      | zero => simp at e; subst e; exact ⟨x, rfl, e1⟩
      | succ i => exact gets_at (i := i) h1 (by simpa using e)
theorem slots_mem : ∀ {avs : List AV} {i j : Nat}, avs[i]? = some (.slot j) → j ∈ slots avs
  | [], _, _, e => by simp at e
  | a :: r, 0, j, e => by simp at e; subst e; simp [slots]
  | a :: r, i + 1, j, e => by
    have := slots_mem (avs := r) (i := i) (j := j) (by simpa using e)
    cases a <;> simp [slots, this]
theorem slots_ne : ∀ {avs : List AV} {i k j : Nat}, (slots avs).Nodup → i ≠ k → avs[i]? = some (.slot j) → avs[k]? = some (.slot j) → False
  | [], _, _, _, _, _, e, _ => by simp at e
  | a :: r, 0, 0, _, _, n, _, _ => n rfl
  | a :: r, 0, k + 1, j, nd, _, e1, e2 => by
    simp at e1; subst e1
    have m := slots_mem (avs := r) (i := k) (j := j) (by simpa using e2)
    simp [slots] at nd
    exact nd.1 m
  | a :: r, i + 1, 0, j, nd, _, e1, e2 => by
    simp at e2; subst e2
    have m := slots_mem (avs := r) (i := i) (j := j) (by simpa using e1)
    simp [slots] at nd
    exact nd.1 m
  | a :: r, i + 1, k + 1, j, nd, n, e1, e2 => by
    have nd' : (slots r).Nodup := by cases a <;> simp [slots] at nd <;> first | exact nd | exact nd.2
    exact slots_ne (avs := r) (i := i) (k := k) (j := j) nd' (fun z => n (by rw [z])) (by simpa using e1) (by simpa using e2)
theorem slots_in : ∀ {avs : List AV} {j : Nat}, j ∈ slots avs → ∃ i : Nat, avs[i]? = some (.slot j)
  | [], _, h => by simp [slots] at h
  | .rv r :: rest, j, h => by
    obtain ⟨i, e⟩ := slots_in (avs := rest) (j := j) (by simpa [slots] using h)
    exact ⟨i + 1, by simpa using e⟩
  | .slot k :: rest, j, h => by
    simp [slots] at h
    rcases h with h | h
    · subst h; exact ⟨0, rfl⟩
    · obtain ⟨i, e⟩ := slots_in (avs := rest) (j := j) h
      exact ⟨i + 1, by simpa using e⟩
/-- the places behind a call -/
theorem puts_out : ∀ {avs : List AV} {rvs : List RV} {env : En} {j : Nat}, j ∉ slots avs → (puts env avs rvs)[j]? = env[j]?
  | [], rvs, env, j, _ => by cases rvs <;> rfl
  | a :: r, [], env, j, _ => rfl
  | .slot i :: r, x :: rvs, env, j, h => by
    simp [slots] at h
    show (puts (env.set i (some x)) r rvs)[j]? = _
    rw [puts_out h.2, List.getElem?_set_ne (Ne.symm h.1)]
  | .rv _ :: r, x :: rvs, env, j, h => by
    show (puts env r rvs)[j]? = _
    exact puts_out (by simpa [slots] using h)
theorem puts_in : ∀ {avs : List AV} {rvs : List RV} {env : En} {i j : Nat} {rv : RV}, (slots avs).Nodup → avs[i]? = some (.slot j) → rvs[i]? = some rv → j < env.length → (puts env avs rvs)[j]? = some (some rv)
  | [], _, _, _, _, _, _, e, _, _ => by simp at e
  | a :: r, [], _, _, _, _, _, _, e, _ => by simp at e
  | .slot k :: r, x :: rvs, env, 0, j, rv, nd, e1, e2, hl => by
    simp at e1 e2; subst e1 e2
    simp [slots] at nd
    show (puts (env.set k (some x)) r rvs)[k]? = _
    rw [puts_out nd.1, List.getElem?_set_self hl]
  | .rv _ :: r, x :: rvs, env, 0, j, rv, nd, e1, e2, hl => by simp at e1
  | .slot k :: r, x :: rvs, env, i + 1, j, rv, nd, e1, e2, hl => by
    simp [slots] at nd
    exact puts_in (env := env.set k (some x)) nd.2 (by simpa using e1) (by simpa using e2) (by simpa using hl)
  | .rv _ :: r, x :: rvs, env, i + 1, j, rv, nd, e1, e2, hl => by
    exact puts_in (avs := r) (rvs := rvs) (env := env) (i := i) (by simpa [slots] using nd) (by simpa using e1) (by simpa using e2) hl
theorem puts_len : ∀ {avs : List AV} {rvs : List RV} {env : En}, (puts env avs rvs).length = env.length
  | [], rvs, env => by cases rvs <;> rfl
  | a :: r, [], env => rfl
  | .slot i :: r, x :: rvs, env => by show (puts (env.set i (some x)) r rvs).length = _; rw [puts_len, List.length_set]
  | .rv _ :: r, x :: rvs, env => puts_len (avs := r)

theorem AvsOk.at1 : ∀ {vs : List V} {avs : List AV} {i : Nat} {av : AV}, AvsOk K mg Hs H σ env H0 vs avs → avs[i]? = some av → ∃ v, vs[i]? = some v ∧ AvOk1 K mg H0 Hs H σ env v av
  | _, _, _, _, .nil, e => by simp at e
  | _, _, 0, _, .cons h _ _, e => by simp at e; subst e; exact ⟨_, rfl, h⟩
  | _, _, i + 1, _, .cons _ r _, e => by
    obtain ⟨v, h1, h2⟩ := r.at1 (i := i) (by simpa using e)
    exact ⟨v, by simpa using h1, h2⟩
theorem AvsOk.length : ∀ {vs : List V} {avs : List AV}, AvsOk K mg Hs H σ env H0 vs avs → vs.length = avs.length
  | _, _, .nil => rfl
  | _, _, .cons _ r _ => congrArg (· + 1) r.length
theorem AvsOk.tsep : ∀ {vs : List V} {avs : List AV} {i j : Nat} {r r' : RV} {v : V}, AvsOk K mg Hs H σ env H0 vs avs → i < j → avs[i]? = some (.rv r) → avs[j]? = some (.rv r') → r.own = true → r'.own = true → vs[i]? = some v → vs[j]? = some v → False
  | _, _, _, _, _, _, _, .nil, _, e, _, _, _, _, _ => by simp at e
  | _, _, 0, 0, _, _, _, .cons _ _ _, l, _, _, _, _, _, _ => absurd l (Nat.lt_irrefl _)
  | _, _, 0, j + 1, r, r', v, .cons _ _ s, _, e1, e2, o1, o2, s1, s2 => by
    simp at e1 s1; subst s1
    exact s r e1 o1 j r' (by simpa using e2) o2 (by simpa using s2)
  | _, _, i + 1, 0, _, _, _, .cons _ _ _, l, _, _, _, _, _, _ => absurd l (Nat.not_lt_zero _)
  | _, _, i + 1, j + 1, r, r', v, .cons _ q _, l, e1, e2, o1, o2, s1, s2 =>
    q.tsep (i := i) (j := j) (by omega) (by simpa using e1) (by simpa using e2) o1 o2 (by simpa using s1) (by simpa using s2)

/-- an argument's content -/
theorem av_own {av : AV} {rv : RV} (ok : EnvOk K mg Hs H σ env) (h : AvOk1 K mg H0 Hs H σ env v av) (g : av.get env = some rv) : Own K mg Hs H v rv := by
  cases av with
  | slot j =>
    obtain ⟨h1, r, h2⟩ := h
    have e : (env[j]?).join = some rv := g
    rw [h2] at e
    have e : r = rv := Option.some.inj e
    subst e
    obtain ⟨v', s, w⟩ := ok.at_ j r h2
    rw [h1] at s; cases s
    exact w
  | rv r => cases g; exact h.1

/-- the arguments' contents, as a def sees them -/
theorem args_ok (ok : EnvOk K mg Hs H σ env) (dm : ∀ b, Ft σ env b → H0 b ≠ none) {vs : List V} {avs : List AV} {rvs : List RV} (a : AvsOk K mg Hs H σ env H0 vs avs) (nd : (slots avs).Nodup) (g : gets env avs = some rvs) :
    EnvOk K mg Hs H (vs.map some) (rvs.map some) := by
  have ll := gets_length g
  have at1 : ∀ (i : Nat) (rv : RV), rvs[i]? = some rv → ∃ (av : AV) (v : V), avs[i]? = some av ∧ vs[i]? = some v ∧ AvOk1 K mg H0 Hs H σ env v av ∧ av.get env = some rv := fun i rv e => by
    have hi : i < avs.length := by rw [ll]; exact (List.getElem?_eq_some_iff.mp e).1
    obtain ⟨v, h1, h2⟩ := a.at1 (i := i) (av := avs[i]) (by simp [hi])
    obtain ⟨rv', h3, h4⟩ := gets_at g (i := i) (av := avs[i]) (by simp [hi])
    rw [e] at h3; cases h3
    exact ⟨avs[i], v, by simp [hi], h1, h2, h4⟩
  have ftOf : ∀ (j : Nat) (rv : RV) (b : Addr), AV.get env (.slot j) = some rv → rv.own = true → σ[j]? = some (some (V.ref b)) → Ft σ env b := fun j rv b e o s => by
    refine ⟨j, rv, ?_, o, s⟩
    have e : (env[j]?).join = some rv := e
    cases q : env[j]? with
    | none => rw [q] at e; cases e
    | some x => rw [q] at e; cases x with
      | none => cases e
      | some y => cases e; rfl
  refine ⟨ok.sub, by simp [a.length, ll], fun i rv e => ?_, fun i j rv rv' b hij e1 e2 o1 o2 s1 s2 => ?_⟩
  · obtain ⟨av, v, h1, h2, h3, h4⟩ := at1 i rv (by simpa using e)
    exact ⟨v, by simpa using h2, av_own ok h3 h4⟩
  · obtain ⟨av, v, h1, h2, h3, h4⟩ := at1 i rv (by simpa using e1)
    obtain ⟨av', v', h1', h2', h3', h4'⟩ := at1 j rv' (by simpa using e2)
    have s1 : vs[i]? = some (V.ref b) := by simpa using s1
    have s2 : vs[j]? = some (V.ref b) := by simpa using s2
    rw [h2] at s1; cases s1
    rw [h2'] at s2; cases s2
    cases av with
    | slot k =>
      cases av' with
      | slot k' =>
        by_cases hk : k = k'
        · subst hk
          exact slots_ne nd hij h1 h1'
        · obtain ⟨s, _⟩ := h3
          obtain ⟨s', _⟩ := h3'
          obtain ⟨i1, r1, e1', o1', q1⟩ := ftOf k rv b h4 o1 s
          have f1 : env[k]? = some (some rv) := by
            have e : (env[k]?).join = some rv := h4
            cases q : env[k]? with
            | none => rw [q] at e; cases e
            | some x => rw [q] at e; cases x with
              | none => cases e
              | some y => cases e; rfl
          have f2 : env[k']? = some (some rv') := by
            have e : (env[k']?).join = some rv' := h4'
            cases q : env[k']? with
            | none => rw [q] at e; cases e
            | some x => rw [q] at e; cases x with
              | none => cases e
              | some y => cases e; rfl
          exact ok.sep k k' rv rv' b hk f1 f2 o1 o2 s s'
      | rv r' =>
        cases h4'
        exact dm b (ftOf k rv b h4 o1 h3.1) (h3'.2 o2 b rfl)
    | rv r =>
      cases h4
      cases av' with
      | slot k' => exact dm b (ftOf k' rv' b h4' o2 h3'.1) (h3.2 o1 b rfl)
      | rv r' =>
        cases h4'
        rcases Nat.lt_or_gt_of_ne hij with l | l
        · exact a.tsep l h1 h1' o1 o2 h2 h2'
        · exact a.tsep l h1' h1 o2 o1 h2' h2
/-- the footprint of the arguments -/
theorem args_ft (ok : EnvOk K mg Hs H σ env) {vs : List V} {avs : List AV} {rvs : List RV} (a : AvsOk K mg Hs H σ env H0 vs avs) (g : gets env avs = some rvs) {b : Addr} (f : Ft (vs.map some) (rvs.map some) b) : Ft σ env b ∨ H0 b = none := by
  obtain ⟨i, rv, e, o, s⟩ := Ft_map.mp f
  have ll := gets_length g
  have hi : i < avs.length := by rw [ll]; exact (List.getElem?_eq_some_iff.mp e).1
  obtain ⟨v, h1, h2⟩ := a.at1 (i := i) (av := avs[i]) (by simp [hi])
  obtain ⟨rv', h3, h4⟩ := gets_at g (i := i) (av := avs[i]) (by simp [hi])
  rw [e] at h3; cases h3
  rw [s] at h1; cases h1
  generalize avs[i] = av at h2 h4
  cases av with
  | slot k =>
    refine .inl ⟨k, rv, ?_, o, h2.1⟩
    have e : (env[k]?).join = some rv := h4
    cases q : env[k]? with
    | none => rw [q] at e; cases e
    | some x => rw [q] at e; cases x with
      | none => cases e
      | some y => cases e; rfl
  | rv r => cases h4; exact .inr (h2.2 o b rfl)
theorem join_some {j : Nat} {rv : RV} (e : (env[j]?).join = some rv) : env[j]? = some (some rv) := by
  cases q : env[j]? with
  | none => rw [q] at e; cases e
  | some x => rw [q] at e; cases x with
    | none => cases e
    | some y => cases e; rfl
/-- behind the call -/
theorem back_ok (ok : EnvOk K mg Hs H σ env) (dm : ∀ b, Ft σ env b → H0 b ≠ none) {vs : List V} {avs : List AV} {rvs rvs' : List RV} (a : AvsOk K mg Hs H σ env H0 vs avs) (nd : (slots avs).Nodup) (g : gets env avs = some rvs)
    (t : T (Ft (vs.map some) (rvs.map some)) Hs H Hs' H') (ok' : EnvOk K mg Hs' H' (vs.map some) (rvs'.map some)) (sb : Sub (rvs.map some) (rvs'.map some)) :
    EnvOk K mg Hs' H' σ (puts env avs rvs') ∧ Go env (puts env avs rvs') := by
  have ll := gets_length g
  have l2 : vs.length = rvs'.length := by simpa using ok'.len
  have l1 := a.length
  -- what stands at a place behind the call
  have char : ∀ (j : Nat) (rv : RV), (puts env avs rvs')[j]? = some (some rv) → (j ∉ slots avs ∧ env[j]? = some (some rv)) ∨ ∃ (i : Nat) (rv0 : RV), avs[i]? = some (.slot j) ∧ rvs'[i]? = some rv ∧ rvs[i]? = some rv0 ∧ env[j]? = some (some rv0) := fun j rv e => by
    by_cases hj : j ∈ slots avs
    · obtain ⟨i, e1⟩ := slots_in hj
      have hi : i < avs.length := (List.getElem?_eq_some_iff.mp e1).1
      obtain ⟨rv0, h3, h4⟩ := gets_at g e1
      have h4 := join_some h4
      have hl : j < env.length := (List.getElem?_eq_some_iff.mp h4).1
      have hr : i < rvs'.length := by omega
      have q := puts_in (rvs := rvs') (rv := rvs'[i]) nd e1 (by simp [hr]) hl
      rw [e] at q
      cases q
      exact .inr ⟨i, rv0, e1, by simp [hr], h3, h4⟩
    · rw [puts_out hj] at e
      exact .inl ⟨hj, e⟩
  have sub : Sub env (puts env avs rvs') := fun j rv e o => by
    rcases char j rv e with ⟨_, e1⟩ | ⟨i, rv0, e1, e2, e3, e4⟩
    · exact ⟨rv, e1, o⟩
    · obtain ⟨r, q1, q2⟩ := sb i rv (by simpa using e2) o
      have q1 : rvs[i]? = some r := by simpa using q1
      rw [e3] at q1; cases q1
      exact ⟨_, e4, q2⟩
  have sep0 : ∀ (j : Nat) (rv : RV) (b : Addr), j ∉ slots avs → env[j]? = some (some rv) → rv.own = true → σ[j]? = some (some (.ref b)) → ¬ Ft (vs.map some) (rvs.map some) b := fun j rv b hj e o s f => by
    obtain ⟨i, rv1, e1, o1, s1⟩ := Ft_map.mp f
    have hi : i < avs.length := by rw [ll]; exact (List.getElem?_eq_some_iff.mp e1).1
    obtain ⟨v, h1, h2⟩ := a.at1 (i := i) (av := avs[i]) (by simp [hi])
    obtain ⟨rv', h3, h4⟩ := gets_at g (i := i) (av := avs[i]) (by simp [hi])
    rw [e1] at h3; cases h3
    rw [s1] at h1; cases h1
    have e0 : avs[i]? = some avs[i] := by simp [hi]
    generalize avs[i] = av at h2 h4 e0
    cases av with
    | slot k =>
      have h4 := join_some h4
      refine ok.sep j k rv rv1 b (fun z => hj (z ▸ slots_mem e0)) e h4 o o1 s h2.1
    | rv r => cases h4; exact dm b ⟨j, rv, e, o, s⟩ (h2.2 o1 b rfl)
  refine ⟨⟨ok'.sub, by rw [puts_len]; exact ok.len, fun j rv e => ?_, fun j k r r' b hjk e1 e2 o1 o2 s1 s2 => ?_⟩, sub, fun j rv e => ?_, puts_len⟩
  · rcases char j rv e with ⟨hj, e1⟩ | ⟨i, rv0, e1, e2, e3, e4⟩
    · obtain ⟨v, s, w⟩ := ok.at_ j rv e1
      exact ⟨v, s, w.keep t fun o b eb f => sep0 j rv b hj e1 o (by rw [s, eb]) f⟩
    · obtain ⟨v, s1, w⟩ := ok'.at_ i rv (by simpa using e2)
      obtain ⟨v', h1, h2⟩ := a.at1 e1
      have s1 : vs[i]? = some v := by simpa using s1
      rw [h1] at s1; cases s1
      exact ⟨_, h2.1, w⟩
  · obtain ⟨q1, e1', o1'⟩ := sub j r e1 o1
    obtain ⟨q2, e2', o2'⟩ := sub k r' e2 o2
    exact ok.sep j k q1 q2 b hjk e1' e2' o1' o2' s1 s2
  · by_cases hj : j ∈ slots avs
    · obtain ⟨i, e1⟩ := slots_in hj
      have hi : i < avs.length := (List.getElem?_eq_some_iff.mp e1).1
      have hl : j < env.length := (List.getElem?_eq_some_iff.mp e).1
      have hr : i < rvs'.length := by omega
      exact ⟨_, puts_in (rvs := rvs') (rv := rvs'[i]) nd e1 (by simp [hr]) hl⟩
    · exact ⟨rv, by rw [puts_out hj]; exact e⟩
/-- an item is shared from now on -/
theorem frz_ok {av : AV} {Kd : D → En → Prop} (ok : EnvOk K mg Hs H σ env) (dm : ∀ b, Ft σ env b → H0 b ≠ none) (h : AvOk1 K mg H0 Hs H σ env v av) (f : frz av env Kd) :
    GhP H fun H' => ∃ d env' Hs', Kd d env' ∧ T (fun b => Ft σ env b ∨ H0 b = none) Hs H Hs' H' ∧ EnvOk K mg Hs' H' σ env' ∧ Go env env' ∧ Rep K mg Hs' v d ∧ (∀ rv, av.get env = some rv → d = rv.fz) := by
  have step : ∀ {a : Addr} {H' : Hp}, Hs a = none → (∀ b, b ≠ a → H' b = H b) → H' a ≠ none → T (fun b => b = a) Hs H (addS Hs H' a) H' ∧ Same (addS Hs H' a) H' := fun {a H'} hn e n => by
    obtain ⟨z1, z2⟩ := addS_same' ok.sub hn e
    refine ⟨⟨z1, fun b u q nb => ?_, fun b q => ?_, fun b q => ?_⟩, z2⟩
    · rw [e b nb]; exact q
    · by_cases hb : b = a
      · subst hb; exact absurd q n
      · rw [e b hb] at q; exact q
    · by_cases hb : b = a
      · exact .inr (.inl hb)
      · refine .inl ?_
        unfold addS at q
        rw [if_neg hb] at q; exact q
  cases av with
  | slot j =>
    obtain ⟨s, _⟩ := h
    obtain ⟨rv, e, k⟩ := f
    obtain ⟨v', s', w⟩ := ok.at_ j rv e
    rw [s] at s'; cases s'
    have hl : j < env.length := (List.getElem?_eq_some_iff.mp e).1
    have uniq : ∀ rv', AV.get env (.slot j) = some rv' → rv.fz = rv'.fz := fun rv' q => by
      have q : (env[j]?).join = some rv' := q
      rw [e] at q; cases q; rfl
    cases o : rv.own with
    | false =>
      cases rv with
      | d x => refine .inl ⟨x, _, Hs, k, T.refl, ?_, ⟨fun i r e1 o1 => ?_, Stay.set, by rw [List.length_set]⟩, w, uniq⟩
               · have : env.set j (some (RV.d x)) = env := List.ext_getElem? fun i => by
                   by_cases hi : i = j
                   · subst hi; rw [List.getElem?_set_self hl, e]
                   · rw [List.getElem?_set_ne (Ne.symm hi)]
                 show EnvOk K mg Hs H σ (env.set j (some (RV.d x)))
                 rw [this]; exact ok
               · by_cases hi : i = j
                 · subst hi
                   have e1 : (env.set i (some (RV.d x)))[i]? = some (some r) := e1
                   rw [List.getElem?_set_self hl] at e1; cases e1; cases o1
                 · have e1 : (env.set j (some (RV.d x)))[i]? = some (some r) := e1
                   rw [List.getElem?_set_ne (Ne.symm hi)] at e1; exact ⟨r, e1, o1⟩
      | olst _ => cases o
      | odic _ => cases o
      | oins _ _ => cases o
    | true =>
      obtain ⟨a, ea, hn, r⟩ := w.freeze ok.sub o
      refine r _ fun H' e1 n1 r => ?_
      obtain ⟨t0, z2⟩ := step hn e1 n1
      have t : T (fun b => rv.own = true ∧ v = .ref b) Hs H (addS Hs H' a) H' := t0.mono fun b hb => .inl ⟨o, by rw [ea, hb]⟩
      obtain ⟨ok2, sb⟩ := ok.put (rv := .d rv.fz) e (fun z => nomatch z) s t z2 r
      exact ⟨rv.fz, _, addS Hs H' a, k, t.mono fun b q => .inl (.inl ⟨j, rv, e, q.1, by rw [s, q.2]⟩), ok2, ⟨sb, Stay.set, by rw [List.length_set]⟩, r, uniq⟩
  | rv r =>
    obtain ⟨w, fr⟩ := h
    have uniq : ∀ rv', AV.get env (.rv r) = some rv' → r.fz = rv'.fz := fun rv' q => by cases q; rfl
    cases o : r.own with
    | false =>
      cases r with
      | d x => exact .inl ⟨x, env, Hs, f, T.refl, ok, Go.refl, w, uniq⟩
      | olst _ => cases o
      | odic _ => cases o
      | oins _ _ => cases o
    | true =>
      obtain ⟨a, ea, hn, q⟩ := w.freeze ok.sub o
      refine q _ fun H' e1 n1 q => ?_
      obtain ⟨t, z2⟩ := step hn e1 n1
      exact ⟨r.fz, env, addS Hs H' a, f, t.mono fun b z => .inl (.inr (by rw [z]; exact fr o a ea)), ok.keep t z2 fun b z w' => by subst z; exact dm b w' (fr o b ea), Go.refl, q, uniq⟩
end
end Mp
namespace Mp
open PySem PySem.Spec PyProof.Rows L2

/-! ### what holds behind a part -/
structure Aft (K : PySem.W.Frag) (mg : Str → Option Value) (Hs H : Hp) (σ : L2.St) (env : En) (Hs1 H1 : Hp) (env1 : En) : Prop where
  t : T (Ft σ env) Hs H Hs1 H1
  ok : EnvOk K mg Hs1 H1 σ env1
  go : Go env env1
section
variable {K : PySem.W.Frag} {mg : Str → Option Value} {Hs H Hs1 H1 Hs2 H2 H0 : Hp} {σ : L2.St} {env env1 env2 : En} {v : V}
theorem Aft.refl (ok : EnvOk K mg Hs H σ env) : Aft K mg Hs H σ env Hs H env := ⟨T.refl, ok, Go.refl⟩
theorem Aft.trans (a : Aft K mg Hs H σ env Hs1 H1 env1) (b : Aft K mg Hs1 H1 σ env1 Hs2 H2 env2) : Aft K mg Hs H σ env Hs2 H2 env2 :=
  ⟨a.t.trans b.t fun _ f => .inl (a.go.sub.ft f), b.ok, a.go.trans b.go⟩
/-- a further step that may touch what is new since H -/
theorem Aft.step {F : Addr → Prop} (a : Aft K mg Hs H σ env Hs1 H1 env1) (t : T F Hs1 H1 Hs2 H2) (f : ∀ b, F b → Ft σ env1 b ∨ H b = none) (ok : EnvOk K mg Hs2 H2 σ env2) (g : Go env1 env2) : Aft K mg Hs H σ env Hs2 H2 env2 :=
  ⟨a.t.trans t fun b q => (f b q).imp (a.go.sub.ft ·) id, ok, a.go.trans g⟩
theorem Aft.dm (a : Aft K mg Hs H σ env Hs1 H1 env1) (ok : EnvOk K mg Hs H σ env) : ∀ b, Ft σ env1 b → H b ≠ none := fun b f => (ok.ftNone (a.go.sub.ft f)).2
theorem Aft.av {av : AV} (a : Aft K mg Hs1 H1 σ env1 Hs2 H2 env2) (h : AvOk1 K mg H0 Hs1 H1 σ env1 v av) (ok : EnvOk K mg Hs1 H1 σ env1) (dm : ∀ b, Ft σ env1 b → H0 b ≠ none) : AvOk1 K mg H0 Hs2 H2 σ env2 v av :=
  h.mono a.go a.t (fun b f => .inl f) ok dm
theorem AvOk1.base {av : AV} (h : AvOk1 K mg H1 Hs2 H2 σ env v av) (d : ∀ b, H1 b = none → H b = none) : AvOk1 K mg H Hs2 H2 σ env v av := by
  cases av with
  | slot j => exact h
  | rv r => exact ⟨h.1, fun o a e => d a (h.2 o a e)⟩
theorem AvsOk.base {vs : List V} {avs : List AV} (h : AvsOk K mg Hs2 H2 σ env H1 vs avs) (d : ∀ b, H1 b = none → H b = none) : AvsOk K mg Hs2 H2 σ env H vs avs := by
  induction h with
  | nil => exact .nil
  | cons a _ s ih => exact .cons (a.base d) ih s
end

/-! ### readings -/
abbrev nx0 : XE := fun _ _ => False
abbrev WV := En → (AV → En → Prop) → Prop
section
variable (K : PySem.W.Frag) (mg : Str → Option Value)
def tV (w : WV) : TE := fun σ H Q => ∃ Hs env Kc, EnvOk K mg Hs H σ env ∧ w env Kc ∧ ∀ av env1, Kc av env1 → ∀ v Hs1 H1, Aft K mg Hs H σ env Hs1 H1 env1 → AvOk1 K mg H Hs1 H1 σ env1 v av → Q v H1
def tT (w : En → (Bool → En → Prop) → Prop) : TT := fun σ H Q => ∃ Hs env Kc, EnvOk K mg Hs H σ env ∧ w env Kc ∧ ∀ b env1, Kc b env1 → ∀ Hs1 H1, Aft K mg Hs H σ env Hs1 H1 env1 → Q b H1
def tL (w : En → (List AV → En → Prop) → Prop) : TA := fun σ H Q => ∃ Hs env Kc, EnvOk K mg Hs H σ env ∧ w env Kc ∧ ∀ avs env1, Kc avs env1 → ∀ vs Hs1 H1, Aft K mg Hs H σ env Hs1 H1 env1 → AvsOk K mg Hs1 H1 σ env1 H vs avs → Q vs H1
def tK (w : En → (List D → En → Prop) → Prop) : TA := fun σ H Q => ∃ Hs env Kc, EnvOk K mg Hs H σ env ∧ w env Kc ∧ ∀ ds env1, Kc ds env1 → ∀ vs Hs1 H1, Aft K mg Hs H σ env Hs1 H1 env1 → Reps K mg Hs1 vs ds → Q vs H1
/-- a def's promise by its Den (no error leaves) -/
def spD (dn : Den) : Sp := fun vs H Q _ => ∃ Hs rvs Kq, EnvOk K mg Hs H (vs.map some) (rvs.map some) ∧ dn rvs Kq (fun _ _ => False) ∧
  ∀ r rvs', Kq r rvs' → ∀ v Hs' H', T (Ft (vs.map some) (rvs.map some)) Hs H Hs' H' → EnvOk K mg Hs' H' (vs.map some) (rvs'.map some) → Sub (rvs.map some) (rvs'.map some) →
    Own K mg Hs' H' v r → (r.own = true → ∀ a, v = .ref a → H a = none) → Q v H'
end
/-- something may be locked behind it -/
def gh (t : TE) : TE := fun σ H Q => t σ H fun v H1 => GhP H1 (Q v)
theorem PE_gh {X : Cx} {e : Expr} {t : TE} (h : PE X e t) : PE X e (gh t) := by
  refine ⟨fun pins s σ H Q I q => thn (h.run pins s σ H _ I q) fun u s1 ⟨v, H1, I1, r, q⟩ => ?_⟩
  rcases q with q | ⟨d, o, e1, m, q⟩
  · exact ⟨v, H1, I1, r, q⟩
  · obtain ⟨od, I2⟩ := I1.lock e1 m
    exact ⟨v, _, I2, r, q od⟩
section
variable {K : PySem.W.Frag} {mg : Str → Option Value} {Hs H Hs1 H1 Hs2 H2 H0 : Hp} {σ : L2.St} {env env1 env2 : En} {v : V}
theorem useD {w : WV} {Kd : D → En → Prop} {Q : VK} (ok : EnvOk K mg Hs H σ env) (hw : kept w env Kd)
    (h : ∀ d env1 v Hs1 H1, Kd d env1 → Aft K mg Hs H σ env Hs1 H1 env1 → Rep K mg Hs1 v d → Q v H1) : gh (tV K mg w) σ H Q := by
  refine ⟨Hs, env, _, ok, hw, fun av env1 f v Hs1 H1 a h1 => ?_⟩
  refine (frz_ok a.ok (a.dm ok) h1 f).imp fun H' ⟨d, env2, Hs2, k, t, ok2, g, r, _⟩ => ?_
  exact h d env2 v Hs2 H' k (a.step t (fun _ q => q) ok2 g) r
/-- the call: from evaluated arguments -/
theorem callS2 {dn : Den} {avs : List AV} {vs : List V} {Kc : AV → En → Prop} {Q : VK} {E : XK} (ok0 : EnvOk K mg Hs H σ env) (a : Aft K mg Hs H σ env Hs1 H1 env1) (av : AvsOk K mg Hs1 H1 σ env1 H vs avs) (c : callDen dn avs env1 Kc nx0)
    (h : ∀ r env2 v Hs2 H2, Kc (.rv r) env2 → Aft K mg Hs H σ env Hs2 H2 env2 → AvOk1 K mg H Hs2 H2 σ env2 v (.rv r) → Same Hs1 Hs2 → Q v H2) : spD K mg dn vs H1 Q E := by
  obtain ⟨nd, rvs, g, c⟩ := c
  have dm := a.dm ok0
  refine ⟨Hs1, rvs, _, args_ok a.ok dm av nd g, c, fun r rvs' k v Hs2 H2 t ok2 sb w fr => ?_⟩
  obtain ⟨ok3, g3⟩ := back_ok a.ok dm av nd g t ok2 sb
  exact h r _ v Hs2 H2 k (a.step t (fun b f => args_ft a.ok av g f) ok3 g3) ⟨w, fun o b e => a.t.dom b (fr o b e)⟩ t.same
theorem callS {dn : Den} {avs : List AV} {vs : List V} {Kc : AV → En → Prop} {Q : VK} {E : XK} (ok0 : EnvOk K mg Hs H σ env) (a : Aft K mg Hs H σ env Hs1 H1 env1) (av : AvsOk K mg Hs1 H1 σ env1 H vs avs) (c : callDen dn avs env1 Kc nx0)
    (h : ∀ r env2 v Hs2 H2, Kc (.rv r) env2 → Aft K mg Hs H σ env Hs2 H2 env2 → AvOk1 K mg H Hs2 H2 σ env2 v (.rv r) → Q v H2) : spD K mg dn vs H1 Q E :=
  callS2 ok0 a av c fun r env2 v Hs2 H2 k a2 av2 _ => h r env2 v Hs2 H2 k a2 av2
theorem tL_nil (E : XE) {Q : List V → Hp → Prop} (h : tL K mg (denA E .nil) σ H Q) : tNil σ H Q := by
  obtain ⟨Hs, env, Kc, ok, w, h⟩ := h
  exact h [] env w [] Hs H (Aft.refl ok) .nil
theorem tL_cons {E : XE} {e : SE} {r : SEs} {Q : List V → Hp → Prop} (h : tL K mg (denA E (.cons e r)) σ H Q) : tCons (tV K mg (den E e)) (tL K mg (denA E r)) σ H Q := by
  obtain ⟨Hs, env, Kc, ok, w, h⟩ := h
  refine ⟨Hs, env, _, ok, w, fun av env1 w1 v Hs1 H1 a1 av1 => ⟨Hs1, env1, _, a1.ok, w1, fun avs env2 k vs Hs2 H2 a2 avs2 => ?_⟩⟩
  refine h _ env2 k _ Hs2 H2 (a1.trans a2) (.cons (a2.av av1 a1.ok (a1.dm ok)) (avs2.base a1.t.dom) fun r er o j r' ej o' ev => ?_)
  subst er
  obtain ⟨v', hv, hr⟩ := avs2.at1 ej
  rw [ev] at hv; cases hv
  obtain ⟨b, eb, _, n⟩ := av1.1.addr o
  exact n (hr.2 o' b eb)
theorem tK_nil (E : XE) {Q : List V → Hp → Prop} (h : tK K mg (denDs E .nil) σ H Q) : tNil σ H Q := by
  obtain ⟨Hs, env, Kc, ok, w, h⟩ := h
  exact h [] env w [] Hs H (Aft.refl ok) .nil
theorem tK_cons {E : XE} {e : SE} {r : SEs} {Q : List V → Hp → Prop} (h : tK K mg (denDs E (.cons e r)) σ H Q) : tCons (gh (tV K mg (den E e))) (tK K mg (denDs E r)) σ H Q := by
  obtain ⟨Hs, env, Kc, ok, w, h⟩ := h
  refine useD ok w fun d env1 v Hs1 H1 k a1 rp => ⟨Hs1, env1, _, a1.ok, k, fun ds env2 k2 vs Hs2 H2 a2 rs => ?_⟩
  exact h _ env2 k2 _ Hs2 H2 (a1.trans a2) (.cons (rp.mono a2.t.same) rs)
/-- from a reading to a weaker one -/
theorem PE_imp {X : Cx} {e : Expr} {t t' : TE} (h : PE X e t) (i : ∀ σ H Q, t' σ H Q → t σ H Q) : PE X e t' := ⟨fun pins s σ H Q I q => h.run pins s σ H Q I (i σ H Q q)⟩
theorem PT_imp {X : Cx} {e : Expr} {t t' : TT} (h : PT X e t) (i : ∀ σ H Q, t' σ H Q → t σ H Q) : PT X e t' := ⟨fun pins s σ H Q I q => h.run pins s σ H Q I (i σ H Q q)⟩
theorem PW_imp {X : Cx} {e : Expr} {t t' : TT} (h : PW X e t) (i : ∀ σ H Q, t' σ H Q → t σ H Q) : PW X e t' := ⟨fun wh pins s σ H Q I q => h.run wh pins s σ H Q I (i σ H Q q)⟩
theorem PA_imp {X : Cx} {e : List Expr} {t t' : TA} (h : PA X e t) (i : ∀ σ H Q, t' σ H Q → t σ H Q) : PA X e t' := ⟨fun pos pins s σ H Q I q => h.run pos pins s σ H Q I (i σ H Q q)⟩
theorem PS_imp {X : Cx} {e : Stmt} {t t' : TS} (h : PS X e t) (i : ∀ D σ H, t' D σ H → t D σ H) : PS X e t' := ⟨fun pins s σ H D I q => h.run pins s σ H D I (i D σ H q)⟩
theorem PSs_imp {X : Cx} {e : List Stmt} {t t' : TS} (h : PSs X e t) (i : ∀ D σ H, t' D σ H → t D σ H) : PSs X e t' := ⟨fun pins s σ H D I q => h.run pins s σ H D I (i D σ H q)⟩
end

/-! ### the context that a def's parts share -/
structure CC where
  P : Program
  w : World
  K : PySem.W.Frag
  mg : Str → Option Value
  base : Heap
  k : Nat
def core (X : Cx) (k : Nat) : CC := ⟨X.prog, X.w, X.K, X.mg, X.base, k⟩
structure InC (c : CC) (X : Cx) : Prop where
  eq : core X c.k = c
  room : Room c.k X.A
  calm : X.calm = true
  nd : X.N.Nodup

/-- a receiver's look -/
def ckV (X : Cx) (ck : D → Prop) (x : V) (H : Hp) : Prop := ∃ Hs rv, Same Hs H ∧ Own X.K X.mg Hs H x rv ∧ ck rv.fz
/-- a value as what is walked: list, tuple, text -/
def AtR (X : Cx) (f : Str) (r : V → Hp → VK → Prop) : Prop := ∀ (e : Expr) (te : TE) (pos : Pos), (∀ w, attributeBase e f X.env w = w) → PE X e te → PE X (.Attribute e f pos) (fun σ H Q => te σ H fun x H1 => r x H1 Q)
/-- an operation keeps what its Den says, in the context c -/
def PrimR (X : Cx) (sh : Shape) (dn : Den) : Prop := match sh with
  | .bin op => OpR X (binaryOp op) fun x y H Q => spD X.K X.mg dn [x, y] H Q E0
  | .cmp op => OpR X (compareOp op) fun x y H Q => spD X.K X.mg dn [x, y] H Q E0
  | .un op => UnR X (unaryOp op) fun x H Q => spD X.K X.mg dn [x] H Q E0
  | .sub => IxR X fun x y H Q => spD X.K X.mg dn [x, y] H Q E0
  | .attr f => AtR X f fun x H Q => spD X.K X.mg dn [x] H Q E0
  | .call0 x => ∀ (p pos : Pos), Gl X x → PE X (.Call (.Name x p) [] [] pos) (fun _ H Q => spD X.K X.mg dn [] H Q E0)
  | .call x => ∀ (es : List Expr) (t : TA) (p pos : Pos), es ≠ [] → Gl X x → (∀ e ∈ es, ∀ y q, e ≠ .Starred y q) → PA X es t → PE X (.Call (.Name x p) es [] pos) (tCB (fun vs H Q => spD X.K X.mg dn vs H Q E0) t)
def PrimOk (c : CC) (sh : Shape) (dn : Den) : Prop := ∀ X, InC c X → PrimR X sh dn
def MethOk (c : CC) (m : Str) (ck : D → Prop) (dn : Den) : Prop := ∀ X, InC c X → ∀ (o : Expr) (es : List Expr) (to : TE) (t : TA) (apos pos : Pos), (∀ w, attributeBase o m X.env w = w) → (apos.endLine == pos.line) = true → es.length < 20 →
  (∀ e ∈ es, ∀ y q, e ≠ .Starred y q) → PE X o to → PA X es t → PE X (.Call (.Attribute o m apos) es [] pos) (fun σ H Q => to σ H fun x H1 => ckV X ck x H1 ∧ t σ H1 fun vs H2 => spD X.K X.mg dn (x :: vs) H2 Q E0)
/-- a call with keywords -/
def CallKOk (c : CC) (x : Str) (n : Nat) (ks : List Str) (dn : Den) : Prop := ∀ X, InC c X → ∀ (es : List Expr) (kws : List Keyword) (t tk : TA) (p pos : Pos), es.length = n → kws.map (·.arg) = ks.map some → Gl X x → (∀ e ∈ es, ∀ y q, e ≠ .Starred y q) → PA X es t → PK X kws tk →
  PE X (.Call (.Name x p) es kws pos) (fun σ H Q => t σ H fun vs H1 => tk σ H1 fun zs H2 => vs.length = n ∧ zs.length = ks.length ∧ spD X.K X.mg dn (vs ++ zs) H2 Q E0)
/-- a call f(**d) -/
def CallSSOk (c : CC) (x : Str) (dn : Den) : Prop := ∀ X, InC c X → ∀ (e : Expr) (te : TE) (p kp pos : Pos), Gl X x → PE X e te → PE X (.Call (.Name x p) [] [⟨none, e, kp⟩] pos) (fun σ H Q => te σ H fun v H1 => spD X.K X.mg dn [v] H1 Q E0)
def SliceOk (c : CC) (dn : Den) (lo hi : Bool) : Prop := ∀ X, InC c X → SlR X fun x l u H Q => l.isSome = lo ∧ u.isSome = hi ∧ spD X.K X.mg dn (x :: (l.toList ++ u.toList).map V.int) H Q E0
/-- a name of the module stands for d -/
def GloOk (c : CC) (x : Str) (d : D) : Prop := (∃ v u, c.mg x = some u ∧ RelV v u ∧ ∀ H, Rep c.K c.mg H v d) ∨ (c.mg x = none ∧ x ≠ "__name__" ∧ ∃ n, bootBuiltins x = some (.type n) ∧ d = .ty n)
end Mp
namespace Mp
open PySem PySem.Spec PyProof.Rows L2

section
variable {X : Cx} {c : CC} {pos : Pos}

/-! ### names, constants -/
theorem s_var {i : Nat} {x : Str} (hN : X.N[i]? = some x) (hv : Vis X.env.scope x) (hd : (x == ("__debug__" : Str)) = false) (hcd : (x == ("__classdict__" : Str)) = false) : PE X (.Name x pos) (tV X.K X.mg (den2 nx0 (.var i)).v) := by
  refine PE_imp (pe_var hN hv hd hcd) fun σ H Q h => ?_
  obtain ⟨Hs, env, Kc, ok, ⟨rv, e, w⟩, h⟩ := h
  obtain ⟨v, s, o⟩ := ok.at_ i rv e
  refine ⟨v, s, ?_⟩
  cases rv with
  | d x => exact h _ env w v Hs H (Aft.refl ok) ⟨o, fun z => nomatch z⟩
  | olst xs => exact h _ env w v Hs H (Aft.refl ok) ⟨s, _, e⟩
  | odic xs => exact h _ env w v Hs H (Aft.refl ok) ⟨s, _, e⟩
  | oins n xs => exact h _ env w v Hs H (Aft.refl ok) ⟨s, _, e⟩
theorem tV_const {K : PySem.W.Frag} {mg : Str → Option Value} {v : V} {d : D} (r : ∀ H, Rep K mg H v d) {σ : L2.St} {H : Hp} {Q : VK} (h : tV K mg (fun env Kc => Kc (.rv (.d d)) env) σ H Q) : tC v σ H Q := by
  obtain ⟨Hs, env, Kc, ok, w, h⟩ := h
  exact h _ env w v Hs H (Aft.refl ok) ⟨r Hs, fun z => nomatch z⟩
theorem s_non {j} : PE X (.Constant .none j pos) (tV X.K X.mg (den2 nx0 (.lit .non)).v) := PE_imp pe_non fun _ _ _ h => tV_const (d := .non) (fun _ => .non) h
theorem s_bl {b j} : PE X (.Constant (.bool b) j pos) (tV X.K X.mg (den2 nx0 (.lit (.bl b))).v) := PE_imp pe_bl fun _ _ _ h => tV_const (d := .bl b) (fun _ => .bl) h
theorem s_int {i j} : PE X (.Constant (.int i) j pos) (tV X.K X.mg (den2 nx0 (.lit (.int i))).v) := PE_imp pe_int fun _ _ _ h => tV_const (d := .int i) (fun _ => .int) h
theorem s_str {x j} : PE X (.Constant (.str x) j pos) (tV X.K X.mg (den2 nx0 (.lit (.str x))).v) := PE_imp pe_str fun _ _ _ h => tV_const (d := .str x) (fun _ => .str) h
theorem s_glo {x : Str} {d : D} (i : InC c X) (g : GloOk c x d) (hg : Gl X x) (hd : (x == ("__debug__" : Str)) = false) : PE X (.Name x pos) (tV X.K X.mg (den2 nx0 (.glo x d)).v) := by
  have e := i.eq
  have e1 : X.mg = c.mg := by rw [← e]; rfl
  have e2 : X.K = c.K := by rw [← e]; rfl
  rcases g with ⟨v, u, hm, r, rp⟩ | ⟨hm, hn, n, hb, rfl⟩
  case inr => exact PE_imp (pe_bltn (v := .ty n) hg (by rw [e1]; exact hm) hb rfl hn hd) fun σ H Q h => tV_const (fun H => .ty) h
  refine PE_imp (pe_glob hg (by rw [e1]; exact hm) r hd) fun σ H Q h => ?_
  exact tV_const (fun H => by rw [e1, e2]; exact rp H) h

/-! ### operations -/
theorem s_op2 {w : WV} {a b : SE} {sh : Shape} {dn : Den} {ta tb : TE} {σ : L2.St} {H : Hp} {Q : VK} {t : R2} (hr : t = fun x y H Q => spD X.K X.mg dn [x, y] H Q E0)
    (h : tV X.K X.mg (den2 nx0 (.prim sh dn (.cons a (.cons b .nil)))).v σ H Q) : tOp t (tV X.K X.mg (den2 nx0 a).v) (tV X.K X.mg (den2 nx0 b).v) σ H Q := by
  subst hr
  obtain ⟨Hs, env, Kc, ok, w, h⟩ := h
  refine ⟨Hs, env, _, ok, w, fun av env1 w1 v Hs1 H1 a1 av1 => ⟨Hs1, env1, _, a1.ok, w1, fun bv env2 w2 v2 Hs2 H2 a2 av2 => ?_⟩⟩
  refine callS ok (a1.trans a2) (.cons (a2.av av1 a1.ok (a1.dm ok)) (.cons (av2.base a1.t.dom) .nil fun r _ _ j r' ej => by simp at ej) fun r er o j r' ej o' ev => ?_) w2 fun r env3 v3 Hs3 H3 k a3 av3 => h _ env3 k v3 Hs3 H3 a3 av3
  cases j with
  | zero =>
    simp at ej ev
    subst er ej ev
    obtain ⟨b, eb, _, n⟩ := av1.1.addr o
    exact n (av2.2 o' b eb)
  | succ j => simp at ej
theorem s_op1 {a : SE} {sh : Shape} {dn : Den} {σ : L2.St} {H : Hp} {Q : VK} 
    (h : tV X.K X.mg (den2 nx0 (.prim sh dn (.cons a .nil))).v σ H Q) : tV X.K X.mg (den2 nx0 a).v σ H fun x H1 => spD X.K X.mg dn [x] H1 Q E0 := by
  obtain ⟨Hs, env, Kc, ok, w, h⟩ := h
  refine ⟨Hs, env, _, ok, w, fun av env1 w1 v Hs1 H1 a1 av1 => ?_⟩
  exact callS ok a1 (.cons av1 .nil fun r _ _ j r' ej => by simp at ej) w1 fun r env3 v3 Hs3 H3 k a3 av3 => h _ env3 k v3 Hs3 H3 a3 av3
theorem s_opN {es : SEs} {dn : Den} {σ : L2.St} {H : Hp} {Q : VK} {sh : Shape}
    (h : tV X.K X.mg (den2 nx0 (.prim sh dn es)).v σ H Q) : tL X.K X.mg (denA nx0 es) σ H fun vs H1 => spD X.K X.mg dn vs H1 Q E0 := by
  obtain ⟨Hs, env, Kc, ok, w, h⟩ := h
  refine ⟨Hs, env, _, ok, w, fun avs env1 w1 vs Hs1 H1 a1 av1 => ?_⟩
  exact callS ok a1 av1 w1 fun r env3 v3 Hs3 H3 k a3 av3 => h _ env3 k v3 Hs3 H3 a3 av3
theorem s_opM {o : SE} {es : SEs} {dn : Den} {ck : D → Prop} {m : Str} {σ : L2.St} {H : Hp} {Q : VK}
    (h : tV X.K X.mg (den2 nx0 (.meth ck m dn o es)).v σ H Q) : tV X.K X.mg (den2 nx0 o).v σ H fun x H1 => ckV X ck x H1 ∧ tL X.K X.mg (denA nx0 es) σ H1 fun vs H2 => spD X.K X.mg dn (x :: vs) H2 Q E0 := by
  obtain ⟨Hs, env, Kc, ok, w, h⟩ := h
  refine ⟨Hs, env, _, ok, w, fun av env1 w1 v Hs1 H1 a1 av1 => ?_⟩
  obtain ⟨⟨rv, g, k⟩, w1⟩ := w1
  refine ⟨⟨Hs1, rv, a1.ok.sub, av_own a1.ok av1 g, k⟩, Hs1, env1, _, a1.ok, w1, fun avs env2 w2 vs Hs2 H2 a2 avs2 => ?_⟩
  refine callS ok (a1.trans a2) (.cons (a2.av av1 a1.ok (a1.dm ok)) (avs2.base a1.t.dom) fun r er o j r' ej o' ev => ?_) w2 fun r env3 v3 Hs3 H3 k a3 av3 => h _ env3 k v3 Hs3 H3 a3 av3
  subst er
  obtain ⟨v', hv, hr⟩ := avs2.at1 ej
  rw [ev] at hv; cases hv
  obtain ⟨b, eb, _, n⟩ := av1.1.addr o
  exact n (hr.2 o' b eb)
theorem slots_d : ∀ (ds : List D), slots (ds.map fun d => .rv (.d d)) = []
  | [] => rfl
  | _ :: ds => slots_d ds
theorem gets_d {env : En} : ∀ (ds : List D), gets env (ds.map fun d => .rv (.d d)) = some (ds.map .d)
  | [] => rfl
  | d :: ds => by show (match AV.get env (.rv (.d d)) with | some x => (gets env (ds.map fun d => .rv (.d d))).map (x :: ·) | none => none) = _; rw [gets_d ds]; rfl
theorem avsD {K : PySem.W.Frag} {mg : Str → Option Value} {Hs H H0 : Hp} {σ : L2.St} {env : En} : ∀ {vs : List V} {ds : List D}, Reps K mg Hs vs ds → AvsOk K mg Hs H σ env H0 vs (ds.map fun d => .rv (.d d))
  | _, _, .nil => .nil
  | _, _, .cons r rs => .cons ⟨r, fun z => nomatch z⟩ (avsD rs) fun r e o => by cases e; cases o

/-! ### and, or, not, if else -/
theorem s_ite {t a b : SE} {et ea eb : Expr} (ht : PT X et (tT X.K X.mg (den2 nx0 t).t)) (ha : PE X ea (tV X.K X.mg (den2 nx0 a).v)) (hb : PE X eb (tV X.K X.mg (den2 nx0 b).v)) :
    PE X (.IfExp et ea eb pos) (tV X.K X.mg (den2 nx0 (.ite t a b)).v) := by
  refine PE_imp (pe_ifExp ht ha hb) fun σ H Q h => ?_
  obtain ⟨Hs, env, Kc, ok, w, h⟩ := h
  refine ⟨Hs, env, _, ok, w, fun k env1 w1 Hs1 H1 a1 => ?_⟩
  cases k with
  | true => exact ⟨Hs1, env1, Kc, a1.ok, w1, fun av env2 k v Hs2 H2 a2 av2 => h av env2 k v Hs2 H2 (a1.trans a2) (av2.base a1.t.dom)⟩
  | false => exact ⟨Hs1, env1, Kc, a1.ok, w1, fun av env2 k v Hs2 H2 a2 av2 => h av env2 k v Hs2 H2 (a1.trans a2) (av2.base a1.t.dom)⟩
theorem s_iteT {t a b : SE} {et ea eb : Expr} (ht : PT X et (tT X.K X.mg (den2 nx0 t).t)) (ha : PT X ea (tT X.K X.mg (den2 nx0 a).t)) (hb : PT X eb (tT X.K X.mg (den2 nx0 b).t)) :
    PT X (.IfExp et ea eb pos) (tT X.K X.mg (den2 nx0 (.ite t a b)).t) := by
  refine ⟨fun pins s σ H Q I h => ?_⟩
  obtain ⟨Hs, env, Kc, ok, w, h⟩ := h
  have h1 : tT X.K X.mg (den2 nx0 t).t σ H fun c H1 => if c = true then tT X.K X.mg (den2 nx0 a).t σ H1 Q else tT X.K X.mg (den2 nx0 b).t σ H1 Q := by
    refine ⟨Hs, env, _, ok, w, fun k env1 w1 Hs1 H1 a1 => ?_⟩
    cases k with
    | true => exact ⟨Hs1, env1, Kc, a1.ok, w1, fun av env2 k Hs2 H2 a2 => h av env2 k Hs2 H2 (a1.trans a2)⟩
    | false => exact ⟨Hs1, env1, Kc, a1.ok, w1, fun av env2 k Hs2 H2 a2 => h av env2 k Hs2 H2 (a1.trans a2)⟩
  refine isTrue_IfExp (thn (ht.run pins s σ H _ I h1) fun c s1 ⟨H1, I1, q1⟩ => ?_)
  cases c with
  | true => exact ha.run pins s1 σ H1 Q I1 q1
  | false => exact hb.run pins s1 σ H1 Q I1 q1
theorem rep_bl {K : PySem.W.Frag} {mg : Str → Option Value} {H : Hp} {v : V} {b : Bool} (r : Rep K mg H v (.bl b)) : v = .bl b := by cases r; rfl
theorem s_notV {a : SE} {ea : Expr} (ha : PE X ea (tV X.K X.mg (den2 nx0 a).v)) : PE X (.UnaryOp .Not ea pos) (tV X.K X.mg (den2 nx0 (.notv a)).v) := by
  refine PE_imp (pe_not (PE_gh ha)) fun σ H Q h => ?_
  obtain ⟨Hs, env, Kc, ok, w, h⟩ := h
  refine useD ok w fun d env1 v Hs1 H1 k a1 r => ?_
  obtain ⟨b, rfl, k⟩ := k
  exact ⟨b, rep_bl r, h _ env1 k _ Hs1 H1 a1 ⟨.bl, fun z => nomatch z⟩⟩
theorem s_notT {a : SE} {ea : Expr} (ha : PT X ea (tT X.K X.mg (den2 nx0 a).t)) : PT X (.UnaryOp .Not ea pos) (tT X.K X.mg (den2 nx0 (.notv a)).t) := by
  refine PT_imp (pt_not ha) fun σ H Q h => ?_
  obtain ⟨Hs, env, Kc, ok, w, h⟩ := h
  exact ⟨Hs, env, _, ok, w, fun b env1 k Hs1 H1 a1 => h _ env1 k Hs1 H1 a1⟩
/-- a value's truth -/
theorem truth_ok {K : PySem.W.Frag} {mg : Str → Option Value} {Hs H : Hp} {v : V} {rv : RV} {b : Bool} (w : Own K mg Hs H v rv) (s : Same Hs H) (t : truth rv.fz = some b) : TruV K v H b := by
  have dat : ∀ {Hs : Hp} {d : D}, Same Hs H → Rep K mg Hs v d → truth d = some b → TruV K v H b := fun {Hs d} s r t => by
    cases r with
    | non => exact (Option.some.inj t).symm
    | bl => exact (Option.some.inj t).symm
    | int => exact (Option.some.inj t).symm
    | str =>
      rename_i z
      have t : (if z.length ≤ sizeLine then some ((z.length : Int) != 0) else none) = some b := t
      by_cases hz : z.length ≤ sizeLine
      · rw [if_pos hz] at t
        exact ⟨hz, (Option.some.inj t).symm⟩
      · rw [if_neg hz] at t; cases t
    | ty => cases t
    | glo _ => cases t
    | lst q rs =>
      refine .inl ⟨_, SqL.of (s _ _ q), ?_⟩
      have t := (Option.some.inj t).symm
      rw [t]
      cases rs <;> rfl
    | tup q rs =>
      refine .inr (.inl ⟨_, SqT_same s q, ?_⟩)
      have t := (Option.some.inj t).symm
      rw [t]
      cases rs <;> rfl
    | dic _ _ => cases t
    | ins _ _ _ => cases t
    | scr _ _ => cases t
  cases o : rv.own with
  | false =>
    cases rv with
    | d x => exact dat s w t
    | olst _ => cases o
    | odic _ => cases o
    | oins _ _ => cases o
  | true =>
    cases rv with
    | d x => cases o
    | olst xs =>
      obtain ⟨a, vs, rfl, h1, _, rs⟩ := w
      refine .inl ⟨_, SqL.of h1, ?_⟩
      have t := (Option.some.inj t).symm
      rw [t]
      cases rs <;> rfl
    | odic _ => cases t
    | oins _ _ => cases t
theorem s_tst {e : Expr} {w : WV} (he : PE X e (tV X.K X.mg w)) (hp : ∀ whole, isTrue e X.env whole = (do let v ← whole; standAt e.pos; holding [v] (truthy v))) : PT X e (tT X.K X.mg (tst w)) := by
  refine PT_imp (pt_truth he hp) fun σ H Q h => ?_
  obtain ⟨Hs, env, Kc, ok, w, h⟩ := h
  refine ⟨Hs, env, _, ok, w, fun av env1 k v Hs1 H1 a1 av1 => ?_⟩
  obtain ⟨rv, b, g, t, k⟩ := k
  exact ⟨b, truth_ok (av_own a1.ok av1 g) a1.ok.sub t, h b env1 k Hs1 H1 a1⟩
/-! ### displays -/
theorem fresh_lst {K : PySem.W.Frag} {mg : Str → Option Value} {Hs H H0 : Hp} {σ : L2.St} {env : En} {p : Addr} {o : HO} (ok : EnvOk K mg Hs H σ env) (n : H p = none) :
    Aft K mg Hs H σ env Hs (upd H p o) env ∧ Hs p = none := by
  have hs : Hs p = none := by
    cases q : Hs p with
    | none => rfl
    | some u => rw [ok.sub p u q] at n; cases n
  have s : Same Hs (upd H p o) := fun b u q => by
    by_cases e : b = p
    · subst e; rw [hs] at q; cases q
    · rw [upd_ne e]; exact ok.sub b u q
  have t : T (fun _ => False) Hs H Hs (upd H p o) := ⟨Same.refl _, fun b u q _ => by
    by_cases e : b = p
    · subst e; rw [n] at q; cases q
    · rw [upd_ne e]; exact q, fun b q => by
    by_cases e : b = p
    · subst e; exact n
    · rw [upd_ne e] at q; exact q, fun b q => .inl q⟩
  exact ⟨⟨t.mono fun _ f => f.elim, ok.keep t s fun _ f => f.elim, Go.refl⟩, hs⟩
theorem s_lst {es : SEs} {ees : List Expr} (h : PA X ees (tK X.K X.mg (denDs nx0 es))) : PE X (.List ees pos) (tV X.K X.mg (den2 nx0 (.lst es)).v) := by
  refine PE_imp (pe_lst h) fun σ H Q h => ?_
  obtain ⟨Hs, env, Kc, ok, w, h⟩ := h
  refine ⟨Hs, env, _, ok, w, fun ds env1 k vs Hs1 H1 a1 rs => ?_⟩
  obtain ⟨hz, k⟩ := k
  refine ⟨by rw [rs.length]; exact hz, fun p hp => ?_⟩
  obtain ⟨a2, hs⟩ := fresh_lst (H0 := H) (o := .lst vs) a1.ok hp
  exact h _ env1 k _ Hs1 _ (a1.trans a2) ⟨⟨p, vs, rfl, upd_same, hs, rs⟩, fun _ a e => by cases e; exact a1.t.dom _ hp⟩
/-- a new shared object -/
theorem fresh_sh {K : PySem.W.Frag} {mg : Str → Option Value} {Hs H : Hp} {σ : L2.St} {env : En} {p : Addr} {o : HO} (ok : EnvOk K mg Hs H σ env) (n : H p = none) :
    Aft K mg Hs H σ env (upd Hs p o) (upd H p o) env := by
  have hs : Hs p = none := by
    cases q : Hs p with
    | none => rfl
    | some u => rw [ok.sub p u q] at n; cases n
  have s : Same (upd Hs p o) (upd H p o) := fun b u q => by
    by_cases e : b = p
    · subst e; rw [upd_same] at q ⊢; exact q
    · rw [upd_ne e] at q ⊢; exact ok.sub b u q
  have t : T (fun _ => False) Hs H (upd Hs p o) (upd H p o) := ⟨fun b u q => by
    by_cases e : b = p
    · subst e; rw [hs] at q; cases q
    · rw [upd_ne e]; exact q, fun b u q _ => by
    by_cases e : b = p
    · subst e; rw [n] at q; cases q
    · rw [upd_ne e]; exact q, fun b q => by
    by_cases e : b = p
    · subst e; exact n
    · rw [upd_ne e] at q; exact q, fun b q => by
    by_cases e : b = p
    · subst e; exact .inr (.inr n)
    · rw [upd_ne e] at q; exact .inl q⟩
  exact ⟨t.mono fun _ f => f.elim, ok.keep t s fun _ f => f.elim, Go.refl⟩
theorem s_tup {es : SEs} {ees : List Expr} {x1} (h : PA X ees (tK X.K X.mg (denDs nx0 es))) : PE X (.Tuple ees x1 pos) (tV X.K X.mg (den2 nx0 (.tup es)).v) := by
  refine PE_imp (pe_tup h) fun σ H Q h => ?_
  obtain ⟨Hs, env, Kc, ok, w, h⟩ := h
  refine ⟨Hs, env, _, ok, w, fun ds env1 k vs Hs1 H1 a1 rs => ?_⟩
  obtain ⟨hz, k⟩ := k
  refine ⟨by rw [rs.length]; exact hz, fun p hp => ?_⟩
  have a2 := fresh_sh (o := .tup vs) a1.ok hp
  exact h _ env1 k _ _ _ (a1.trans a2) ⟨.tup (SqT.of upd_same) (rs.mono a2.t.same), fun z => nomatch z⟩
end
end Mp
namespace Mp
open PySem PySem.Spec PyProof.Rows L2

/-! ### what is walked -/
/-- whatever came behind (Hs0), J yields the items xs, and stops -/
def WalkD (K : PySem.W.Frag) (mg : Str → Option Value) (Hs0 : Hp) (J : It) (xs : List D) : Prop := ∀ Hs H, Same Hs0 Hs → Same Hs H → ∀ i,
  (∀ d, xs[i]? = some d → J.go i H ∧ ∀ x H', J.yld i H x H' → ∃ Hs', Same Hs Hs' ∧ Same H H' ∧ Same Hs' H' ∧ (∀ b, Hs' b ≠ none → Hs b ≠ none ∨ H b = none) ∧ Rep K mg Hs' x d) ∧ (xs[i]? = none → J.stop i H)
/-- the same while the locals are such (a local's own list is walked) -/
def WalkH (K : PySem.W.Frag) (mg : Str → Option Value) (σ : L2.St) (hold : En → Prop) (Hs0 : Hp) (J : It) (xs : List D) : Prop := ∀ Hs H env, Same Hs0 Hs → EnvOk K mg Hs H σ env → hold env → ∀ i,
  (∀ d, xs[i]? = some d → J.go i H ∧ ∀ x H', J.yld i H x H' → ∃ Hs', Same Hs Hs' ∧ Same H H' ∧ Same Hs' H' ∧ (∀ b, Hs' b ≠ none → Hs b ≠ none ∨ H b = none) ∧ Rep K mg Hs' x d) ∧ (xs[i]? = none → J.stop i H)
theorem WalkD.h {K : PySem.W.Frag} {mg : Str → Option Value} {σ : L2.St} {hold : En → Prop} {Hs0 : Hp} {J : It} {xs : List D} (w : WalkD K mg Hs0 J xs) : WalkH K mg σ hold Hs0 J xs := fun Hs H _ s ok _ => w Hs H s ok.sub
section
variable (K : PySem.W.Frag) (mg : Str → Option Value)
def tSrcH (hold : List D → En → Prop) (w : En → (List D → En → Prop) → Prop) : TI := fun σ H R => ∃ Hs env Kc, EnvOk K mg Hs H σ env ∧ w env Kc ∧ ∀ xs env1, Kc xs env1 → ∀ J Hs1 H1, Aft K mg Hs H σ env Hs1 H1 env1 → WalkH K mg σ (hold xs) Hs1 J xs → R J H1
def tSrc (w : En → (List D → En → Prop) → Prop) : TI := fun σ H R => ∃ Hs env Kc, EnvOk K mg Hs H σ env ∧ w env Kc ∧ ∀ xs env1, Kc xs env1 → ∀ J Hs1 H1, Aft K mg Hs H σ env Hs1 H1 env1 → WalkD K mg Hs1 J xs → R J H1
end
section
variable {K : PySem.W.Frag} {mg : Str → Option Value} {Hs H : Hp}
theorem walk_list {a : Addr} {vs : List V} {xs : List D} (q : SqL K Hs a vs) (r : Reps K mg Hs vs xs) : WalkD K mg Hs (Itl K a) xs := by
  intro Hs1 H1 s1 s2 i
  have q1 := Same.seq (s1.trans s2) q
  refine ⟨fun d e => ?_, fun e => ⟨vs, q1, ?_⟩⟩
  · obtain ⟨v, ev, rv⟩ := r.get e
    refine ⟨⟨vs, v, q1, ev⟩, fun x H' y => ?_⟩
    obtain ⟨rfl, y⟩ := y
    have := y vs q1
    rw [ev] at this; cases this
    exact ⟨Hs1, Same.refl _, Same.refl _, s2, fun b h => .inl h, rv.mono s1⟩
  · rw [r.length]; exact List.getElem?_eq_none_iff.mp e
theorem walk_tup {a : Addr} {vs : List V} {xs : List D} (q : SqT K Hs a vs) (r : Reps K mg Hs vs xs) : WalkD K mg Hs (Itt K a) xs := by
  intro Hs1 H1 s1 s2 i
  have q1 := SqT_same (s1.trans s2) q
  refine ⟨fun d e => ?_, fun e => ⟨vs, q1, ?_⟩⟩
  · obtain ⟨v, ev, rv⟩ := r.get e
    refine ⟨⟨vs, v, q1, ev⟩, fun x H' y => ?_⟩
    obtain ⟨rfl, y⟩ := y
    have := y vs q1
    rw [ev] at this; cases this
    exact ⟨Hs1, Same.refl _, Same.refl _, s2, fun b h => .inl h, rv.mono s1⟩
  · rw [r.length]; exact List.getElem?_eq_none_iff.mp e
theorem walk_str {z : Str} : WalkD K mg Hs (Its z) (chars z) := by
  intro Hs1 H1 s1 s2 i
  have ll : (chars z)[i]? = (z.cps[i]?).map fun c => D.str ⟨#[c]⟩ := by unfold chars; simp
  refine ⟨fun d e => ?_, fun e => ?_⟩
  · rw [ll] at e
    obtain ⟨c, hc, hd⟩ := Option.map_eq_some_iff.mp e
    refine ⟨(Array.getElem?_eq_some_iff.mp hc).1, fun x H' y => ?_⟩
    obtain ⟨rfl, c', hc', hx⟩ := y
    rw [hc] at hc'; cases hc'
    subst hx hd
    exact ⟨Hs1, Same.refl _, Same.refl _, s2, fun b h => .inl h, .str⟩
  · rw [ll] at e
    have e : z.cps[i]? = none := by simpa using e
    exact Array.getElem?_eq_none_iff.mp e
theorem walk_rng {lo hi : Int} : WalkD K mg Hs (Itr lo (hi - lo).toNat) (rangeD lo hi) := by
  intro Hs1 H1 s1 s2 i
  have ll : (rangeD lo hi)[i]? = if i < (hi - lo).toNat then some (D.int (lo + (i : Nat))) else none := by
    unfold rangeD
    by_cases h : i < (hi - lo).toNat
    · rw [if_pos h]; simp [h]
    · rw [if_neg h]; simp; omega
  rw [ll]
  refine ⟨fun d e => ?_, fun e => ?_⟩
  · by_cases h : i < (hi - lo).toNat
    · rw [if_pos h] at e; cases e
      refine ⟨h, fun x H' y => ?_⟩
      obtain ⟨rfl, rfl⟩ := y
      exact ⟨Hs1, Same.refl _, Same.refl _, s2, fun b h => .inl h, .int⟩
    · rw [if_neg h] at e; cases e
  · by_cases h : i < (hi - lo).toNat
    · rw [if_pos h] at e; cases e
    · exact Nat.le_of_not_lt h
theorem enumD_get {xs : List D} {i : Nat} : (enumD xs)[i]? = (xs[i]?).map fun d => D.tup [.int (i : Nat), d] := by
  unfold enumD
  rw [List.getElem?_map, List.getElem?_zipIdx]
  cases xs[i]? <;> simp
theorem walk_enum {a : Addr} {vs : List V} {xs : List D} (q : SqL K Hs a vs) (r : Reps K mg Hs vs xs) : WalkD K mg Hs (Ite K a) (enumD xs) := by
  intro Hs1 H1 s1 s2 i
  have q1 := Same.seq (s1.trans s2) q
  rw [enumD_get]
  refine ⟨fun d e => ?_, fun e => ⟨vs, q1, ?_⟩⟩
  · obtain ⟨d0, e0, rfl⟩ := Option.map_eq_some_iff.mp e
    obtain ⟨v, ev, rv⟩ := r.get e0
    refine ⟨⟨vs, v, q1, ev⟩, fun x H' y => ?_⟩
    obtain ⟨T0, y0, rfl, hn, rfl, y⟩ := y
    have := y vs q1
    rw [ev] at this; cases this
    have hsn : Hs1 T0 = none := by
      cases z : Hs1 T0 with
      | none => rfl
      | some o => rw [s2 _ _ z] at hn; cases hn
    have ss : Same Hs1 (upd Hs1 T0 (.tup [.int (i : Nat), v])) := fun b o h => by
      by_cases hb : b = T0
      · subst hb; rw [hsn] at h; cases h
      · rw [upd_ne hb]; exact h
    refine ⟨upd Hs1 T0 (.tup [.int (i : Nat), v]), ss, fun b o h => ?_, fun b o h => ?_, fun b h => ?_, .tup (SqT.of upd_same) (.cons .int (.cons ((rv.mono s1).mono ss) .nil))⟩
    · by_cases hb : b = T0
      · subst hb; rw [hn] at h; cases h
      · rw [upd_ne hb]; exact h
    · by_cases hb : b = T0
      · subst hb; rw [upd_same] at h ⊢; exact h
      · rw [upd_ne hb] at h ⊢; exact s2 _ _ h
    · by_cases hb : b = T0
      · subst hb; exact .inr hn
      · rw [upd_ne hb] at h; exact .inl h
  · have e : xs[i]? = none := by simpa using e
    rw [r.length]; exact List.getElem?_eq_none_iff.mp e
theorem RepK.at {i : Nat} : ∀ {vs : List (Key × V)} {ds : List (Key × D)} {i : Nat} {k : Key} {d : D}, RepK K mg H vs ds → ds[i]? = some (k, d) → ∃ v, vs[i]? = some (k, v) ∧ Rep K mg H v d
  | _, _, _, _, _, .nil, e => by simp at e
  | _, _, 0, _, _, .cons h _, e => by simp at e; obtain ⟨rfl, rfl⟩ := e; exact ⟨_, rfl, h⟩
  | _, _, i + 1, _, _, .cons _ r, e => by
    obtain ⟨v, h1, h2⟩ := RepK.at (i := i) r (by simpa using e)
    exact ⟨v, by simpa using h1, h2⟩
theorem rep_key {k : Key} : Rep K mg H (kV k) (keyD k) := by
  cases k with
  | inl i => exact .int
  | inr s => exact .str
theorem walk_keys {a : Addr} {od : Obj} {ks : List (Key × V)} {kvs : List (Key × D)} (q : Hs a = some (.frz od (.dK ks))) (r : RepK K mg Hs ks kvs) : WalkD K mg Hs (Itk a od ks) (kvs.map fun p => keyD p.1) := by
  intro Hs1 H1 s1 s2 i
  have q1 := s2 _ _ (s1 _ _ q)
  refine ⟨fun d e => ?_, fun e => ⟨q1, ?_⟩⟩
  · rw [List.getElem?_map] at e
    obtain ⟨⟨k, d0⟩, e0, rfl⟩ := Option.map_eq_some_iff.mp e
    obtain ⟨v, ev, rv⟩ := RepK.at (i := 0) r e0
    refine ⟨⟨q1, (List.getElem?_eq_some_iff.mp ev).1⟩, fun x H' y => ?_⟩
    obtain ⟨rfl, k', v', ek, rfl⟩ := y
    rw [ev] at ek; cases ek
    exact ⟨Hs1, Same.refl _, Same.refl _, s2, fun b h => .inl h, rep_key⟩
  · have e : kvs[i]? = none := by simpa using e
    rw [r.length]; exact List.getElem?_eq_none_iff.mp e
theorem walk_items {a : Addr} {od : Obj} {ks : List (Key × V)} {kvs : List (Key × D)} (q : Hs a = some (.frz od (.dK ks))) (r : RepK K mg Hs ks kvs) : WalkD K mg Hs (Iti a od ks) (kvs.map fun p => .tup [keyD p.1, p.2]) := by
  intro Hs1 H1 s1 s2 i
  have q1 := s2 _ _ (s1 _ _ q)
  refine ⟨fun d e => ?_, fun e => ⟨q1, ?_⟩⟩
  · rw [List.getElem?_map] at e
    obtain ⟨⟨k, d0⟩, e0, rfl⟩ := Option.map_eq_some_iff.mp e
    obtain ⟨v, ev, rv⟩ := RepK.at (i := 0) r e0
    refine ⟨⟨q1, (List.getElem?_eq_some_iff.mp ev).1⟩, fun x H' y => ?_⟩
    obtain ⟨T0, k', v', ek, rfl, hn, rfl⟩ := y
    rw [ev] at ek; cases ek
    have hsn : Hs1 T0 = none := by
      cases z : Hs1 T0 with
      | none => rfl
      | some o => rw [s2 _ _ z] at hn; cases hn
    have ss : Same Hs1 (upd Hs1 T0 (.tup [kV k, v])) := fun b o h => by
      by_cases hb : b = T0
      · subst hb; rw [hsn] at h; cases h
      · rw [upd_ne hb]; exact h
    refine ⟨upd Hs1 T0 (.tup [kV k, v]), ss, fun b o h => ?_, fun b o h => ?_, fun b h => ?_, .tup (SqT.of upd_same) (.cons rep_key (.cons ((rv.mono s1).mono ss) .nil))⟩
    · by_cases hb : b = T0
      · subst hb; rw [hn] at h; cases h
      · rw [upd_ne hb]; exact h
    · by_cases hb : b = T0
      · subst hb; rw [upd_same] at h ⊢; exact h
      · rw [upd_ne hb] at h ⊢; exact s2 _ _ h
    · by_cases hb : b = T0
      · subst hb; exact .inr hn
      · rw [upd_ne hb] at h; exact .inl h
  · have e : kvs[i]? = none := by simpa using e
    rw [r.length]; exact List.getElem?_eq_none_iff.mp e
end
section
variable {X : Cx} {pos p : Pos}
/-- a list, a tuple, a text -/
theorem s_srcVal {e tg : Expr} {w : WV} (he : PE X e (tV X.K X.mg w)) : PI X tg e (tSrc X.K X.mg fun env Kc => kept w env fun d env2 => ∃ xs, walkOf d = some xs ∧ Kc xs env2) := by
  refine ⟨fun pins s σ H R I h => ?_⟩
  obtain ⟨Hs, env, Kc, ok, w, h⟩ := h
  have hq : gh (tV X.K X.mg _) σ H (fun v H1 => ∃ xs Hs1, (∀ J, WalkD X.K X.mg Hs1 J xs → R J H1) ∧ Same Hs1 H1 ∧ ∃ d, walkOf d = some xs ∧ Rep X.K X.mg Hs1 v d) :=
    useD ok w fun d env1 v Hs1 H1 k a1 r => by
      obtain ⟨xs, e1, k⟩ := k
      exact ⟨xs, Hs1, fun J wk => h xs env1 k J Hs1 H1 a1 wk, a1.ok.sub, d, e1, r⟩
  refine thn ((PE_gh he).run pins s σ H _ I hq) fun u s1 ⟨x, H1, I1, r1, xs, Hs1, g, sm, d, e1, rd⟩ => ?_
  cases rd with
  | lst q rs =>
    cases e1
    cases r1
    obtain ⟨its, rv, pl, hz⟩ := I1.list (SqL.of (sm _ _ q))
    refine wpAny_pyIter_list pl.isList ?_
    exact pi_one (tk := s1.toks) I1 _ (turn_list _ _) ⟨_, Heap.get?_push_size _ rfl, rfl, rfl⟩ (g _ (walk_list (SqL.of q) rs))
  | tup q rs =>
    cases e1
    cases r1
    obtain ⟨its, rv, pl, hz⟩ := I1.tuple (SqT_same sm q)
    refine wpAny_pyIter_tuple (show s1.heap.IsTuple _ its.toArray from pl) ?_
    exact pi_one (tk := s1.toks) I1 _ (turn_tuple _ _) ⟨_, Heap.get?_push_size _ rfl, rfl, rfl⟩ (g _ (walk_tup q rs))
  | str =>
    rename_i z
    cases e1
    obtain ⟨t, rfl⟩ := r1
    cases ha : z.cps.all (· < 128)
    · exact wpAny_pyIter_wide ha (pi_one (tk := s1.toks) I1 _ (turn_str _ z t "str_iterator" (.inr rfl)) ⟨_, Heap.get?_push_size _ rfl, rfl, rfl⟩ (g _ walk_str))
    · exact wpAny_pyIter_ascii ha (pi_one (tk := s1.toks) I1 _ (turn_str _ z t "str_ascii_iterator" (.inl rfl)) ⟨_, Heap.get?_push_size _ rfl, rfl, rfl⟩ (g _ walk_str))
  | non => cases e1
  | bl => cases e1
  | int => cases e1
  | ty => cases e1
  | glo _ => cases e1
  | dic q rs =>
    cases e1
    obtain rfl := r1
    obtain ⟨hs, hgd, hx, es, ep, vs, hdt, hsz, kv, hm⟩ := I1.frzK (sm _ _ q)
    refine iter_keys hs hgd hx hdt (pi_one (tk := s1.toks) I1 _ (turn_keys _ hdt) ⟨_, Heap.get?_push_size _ rfl, rfl, ?_⟩ (g _ (walk_keys q rs)))
    rw [hsz] <;> rfl
  | ins _ _ _ => cases e1
  | scr _ _ => cases e1
/-- a local's own list -/
theorem s_srcSlot {i : Nat} {x : Str} {tg : Expr} {p : Pos} (hN : X.N[i]? = some x) (hv : Vis X.env.scope x) (hd : (x == ("__debug__" : Str)) = false) (hcd : (x == ("__classdict__" : Str)) = false) :
    PI X tg (.Name x p) (tSrcH X.K X.mg (Src.hold (.slot i)) (denSrc nx0 (.slot i))) := by
  refine ⟨fun pins s σ H R I h => ?_⟩
  obtain ⟨Hs, env, Kc, ok, ⟨xs, e, w⟩, h⟩ := h
  obtain ⟨v, sv, a, vs, rfl, ha, hs, rs⟩ := ok.at_ i _ e
  refine thn ((pe_var hN hv hd hcd).run pins s σ H (fun v H1 => v = V.ref a ∧ H1 = H) I ⟨.ref a, sv, rfl, rfl⟩) fun u s1 ⟨x, H1, I1, r1, ex, eH⟩ => ?_
  subst ex eH
  cases r1
  obtain ⟨its, rv, pl, hz⟩ := I1.list (SqL.of ha)
  refine wpAny_pyIter_list pl.isList ?_
  refine pi_one (tk := s1.toks) I1 _ (turn_list _ _) ⟨_, Heap.get?_push_size _ rfl, rfl, rfl⟩ (h xs env w _ Hs _ (Aft.refl ok) ?_)
  intro Hs2 H2 env2 sm ok2 hold j
  obtain ⟨v2, sv2, a2, vs2, rfl, ha2, hs2, rs2⟩ := ok2.at_ i _ hold
  rw [sv] at sv2; cases sv2
  have q1 : SqL X.K H2 a vs2 := SqL.of ha2
  refine ⟨fun d e => ?_, fun e => ⟨vs2, q1, ?_⟩⟩
  · obtain ⟨v, ev, rv⟩ := rs2.get e
    refine ⟨⟨vs2, v, q1, ev⟩, fun x H' y => ?_⟩
    obtain ⟨rfl, y⟩ := y
    have := y vs2 q1
    rw [ev] at this; cases this
    exact ⟨Hs2, Same.refl _, Same.refl _, ok2.sub, fun b h => .inl h, rv⟩
  · rw [rs2.length]; exact List.getElem?_eq_none_iff.mp e
theorem rep_int {K : PySem.W.Frag} {mg : Str → Option Value} {H : Hp} {v : V} {j : Int} (r : Rep K mg H v (.int j)) : v = .int j := by cases r; rfl
theorem s_rng1 {a : Expr} {e : SE} {tg : Expr} (hg : Gl X "range") (hm : X.mg "range" = none) (ha : PE X a (tV X.K X.mg (den2 nx0 e).v)) (hs : starEach [a] X.env = [(false, eval a X.env)]) :
    PI X tg (.Call (.Name "range" p) [a] [] pos) (tSrc X.K X.mg fun env Kc => kept (den2 nx0 e).v env fun d env2 => ∃ j : Int, d = .int j ∧ (-(2 ^ 62) ≤ j ∧ j < 2 ^ 62) ∧ Kc (rangeD 0 j) env2) := by
  refine ⟨fun pins s σ H R I h => (pi_range1 hg hm (pa_cons (PE_gh ha) pa_nil (by rw [hs]; rfl)) hs).run pins s σ H R I ?_⟩
  obtain ⟨Hs, env, Kc, ok, w, h⟩ := h
  refine useD ok w fun d env1 v Hs1 H1 k a1 r => ?_
  obtain ⟨j, rfl, ⟨b1, b2⟩, k⟩ := k
  refine ⟨j, by rw [rep_int r], b1, b2, h _ env1 k _ Hs1 H1 a1 ?_⟩
  have := walk_rng (K := X.K) (mg := X.mg) (Hs := Hs1) (lo := 0) (hi := j)
  rw [Int.sub_zero] at this
  exact this
theorem s_rng2 {a b : Expr} {e f : SE} {tg : Expr} (hg : Gl X "range") (hm : X.mg "range" = none) (ha : PE X a (tV X.K X.mg (den2 nx0 e).v)) (hb : PE X b (tV X.K X.mg (den2 nx0 f).v)) (hs : starEach [a, b] X.env = [(false, eval a X.env), (false, eval b X.env)]) (hs2 : starEach [b] X.env = [(false, eval b X.env)]) :
    PI X tg (.Call (.Name "range" p) [a, b] [] pos) (tSrc X.K X.mg fun env Kc => kept (den2 nx0 e).v env fun d env2 => kept (den2 nx0 f).v env2 fun d' env3 => ∃ i j : Int, d = .int i ∧ d' = .int j ∧ (-(2 ^ 62) ≤ i ∧ i < 2 ^ 62 ∧ -(2 ^ 62) ≤ j ∧ j < 2 ^ 62) ∧ Kc (rangeD i j) env3) := by
  refine ⟨fun pins s σ H R I h => (pi_range2 hg hm (pa_cons (PE_gh ha) (pa_cons (PE_gh hb) pa_nil (by rw [hs2]; rfl)) (by rw [hs, hs2])) hs hs2).run pins s σ H R I ?_⟩
  obtain ⟨Hs, env, Kc, ok, w, h⟩ := h
  refine useD ok w fun d env1 v Hs1 H1 k a1 r => useD a1.ok k fun d' env2 v' Hs2 H2 k a2 r' => ?_
  obtain ⟨i, j, rfl, rfl, b, k⟩ := k
  exact ⟨i, j, by rw [rep_int r, rep_int r'], b, h _ env2 k _ Hs2 H2 (a1.trans a2) walk_rng⟩
theorem s_enum {e : Expr} {w : WV} {elts : List Expr} {kk : Nat} {tpos : Pos} (hg : Gl X "enumerate") (hm : X.mg "enumerate" = none) (he : PE X e (tV X.K X.mg w)) (hs : starEach [e] X.env = [(false, eval e X.env)]) :
    PI X (.Tuple elts kk tpos) (.Call (.Name "enumerate" p) [e] [] pos) (tSrc X.K X.mg fun env Kc => kept w env fun d env2 => ∃ xs, d = .lst xs ∧ Kc (enumD xs) env2) := by
  refine ⟨fun pins s σ H R I h => (pi_enum hg hm (pa_cons (PE_gh he) pa_nil (by rw [hs]; rfl)) hs).run pins s σ H R I ?_⟩
  obtain ⟨Hs, env, Kc, ok, w, h⟩ := h
  refine useD ok w fun d env1 v Hs1 H1 k a1 r => ?_
  obtain ⟨xs, rfl, k⟩ := k
  cases r with
  | lst q rs => exact ⟨_, _, rfl, SqL.of (a1.ok.sub _ _ q), h _ env1 k _ Hs1 H1 a1 (walk_enum (SqL.of q) rs)⟩
theorem s_items {e : Expr} {w : WV} {elts : List Expr} {kk : Nat} {tpos apos : Pos} (he : PE X e (tV X.K X.mg w)) (hb : ∀ w, attributeBase e "items" X.env w = w) (hl : (apos.endLine == pos.line) = true) :
    PI X (.Tuple elts kk tpos) (.Call (.Attribute e "items" apos) [] [] pos) (tSrc X.K X.mg fun env Kc => kept w env fun d env2 => ∃ kvs, d = .dic kvs ∧ Kc (kvs.map fun p => .tup [keyD p.1, p.2]) env2) := by
  refine ⟨fun pins s σ H R I h => (pi_items (PE_gh he) (hb _) hl).run pins s σ H R I ?_⟩
  obtain ⟨Hs, env, Kc, ok, w, h⟩ := h
  refine useD ok w fun d env1 v Hs1 H1 k a1 r => ?_
  obtain ⟨kvs, rfl, k⟩ := k
  cases r with
  | dic q rs => exact ⟨_, _, _, rfl, a1.ok.sub _ _ q, h _ env1 k _ Hs1 H1 a1 (walk_items q rs)⟩
end
end Mp
namespace Mp
open PySem PySem.Spec PyProof.Rows L2

/-! ### targets -/
section
variable (K : PySem.W.Frag) (mg : Str → Option Value)
def tG (tg : Tg) : TG := fun v σ H Q => ∃ Hs env d env1, EnvOk K mg Hs H σ env ∧ Rep K mg Hs v d ∧ bindT tg d env = some env1 ∧ ∀ σ1, EnvOk K mg Hs H σ1 env1 → (∀ j, j ∉ tg.slots → σ1[j]? = σ[j]?) → Q σ1 H
end
section
variable {K : PySem.W.Frag} {mg : Str → Option Value} {Hs H Hs' H' : Hp} {σ σ2 : L2.St} {env env4 : En}
theorem EnvOk.setD {i : Nat} {v : V} {d : D} (ok : EnvOk K mg Hs H σ env) (r : Rep K mg Hs v d) : EnvOk K mg Hs H (σ.set i (some v)) (env.set i (some (.d d))) :=
  ok.set (rv := .d d) r fun z => nomatch z
def setAllV (σ : L2.St) : List Nat → List V → L2.St
  | i :: is, v :: vs => setAllV (σ.set i (some v)) is vs
  | _, _ => σ
theorem EnvOk.setAll : ∀ {l : List Nat} {vs : List V} {ds : List D} {σ : L2.St} {env : En}, EnvOk K mg Hs H σ env → Reps K mg Hs vs ds → EnvOk K mg Hs H (setAllV σ l vs) (setAll env l ds)
  | [], _, _, _, _, ok, _ => by cases ‹Reps K mg Hs _ _› <;> exact ok
  | _ :: _, _, _, _, _, ok, .nil => ok
  | i :: l, _, _, σ, env, ok, .cons r rs => (ok.setD r).setAll rs
theorem setAllV_out : ∀ {l : List Nat} {vs : List V} {σ : L2.St} {j : Nat}, j ∉ l → (setAllV σ l vs)[j]? = σ[j]?
  | [], vs, σ, j, _ => by cases vs <;> rfl
  | i :: l, [], σ, j, _ => rfl
  | i :: l, v :: vs, σ, j, h => by
    simp only [List.mem_cons, not_or] at h
    show (setAllV (σ.set i (some v)) l vs)[j]? = _
    rw [setAllV_out h.2, List.getElem?_set_ne (Ne.symm h.1)]
theorem setAll_out : ∀ {l : List Nat} {ds : List D} {env : En} {j : Nat}, j ∉ l → (setAll env l ds)[j]? = env[j]?
  | [], ds, env, j, _ => by cases ds <;> rfl
  | i :: l, [], env, j, _ => rfl
  | i :: l, v :: vs, env, j, h => by
    simp only [List.mem_cons, not_or] at h
    show (setAll (env.set i (some (.d v))) l vs)[j]? = _
    rw [setAll_out h.2, List.getElem?_set_ne (Ne.symm h.1)]
theorem setD_go {i : Nat} {d : D} : Go env (env.set i (some (.d d))) := by
  refine ⟨fun j r e o => ?_, Stay.set, by rw [List.length_set]⟩
  by_cases hj : j = i
  · subst hj
    have hl : j < env.length := by simpa using (List.getElem?_eq_some_iff.mp e).1
    rw [List.getElem?_set_self hl] at e
    cases e; cases o
  · rw [List.getElem?_set_ne (Ne.symm hj)] at e
    exact ⟨r, e, o⟩
theorem setAll_go : ∀ {l : List Nat} {ds : List D} {env : En}, Go env (setAll env l ds)
  | [], ds, env => by cases ds <;> exact Go.refl
  | i :: l, [], env => Go.refl
  | i :: l, d :: ds, env => setD_go.trans (setAll_go (l := l) (ds := ds) (env := env.set i (some (.d d))))
theorem bindT_go {tg : Tg} {d : D} {env1 : En} (h : bindT tg d env = some env1) : Go env env1 ∧ ∀ j, j ∉ tg.slots → env1[j]? = env[j]? := by
  cases tg with
  | name i =>
    cases h
    exact ⟨setD_go, fun j hj => by rw [List.getElem?_set_ne]; intro e; exact hj (by simp [Tg.slots, e])⟩
  | tup l =>
    cases d with
    | tup xs =>
      have h : (if xs.length = l.length then some (setAll env l xs) else none) = some env1 := h
      by_cases e : xs.length = l.length
      · rw [if_pos e] at h; cases h
        exact ⟨setAll_go, fun j hj => setAll_out hj⟩
      · rw [if_neg e] at h; cases h
    | _ => cases h
end
section
variable {X : Cx} {pos : Pos}
theorem s_tgName {i : Nat} {x : Str} (hN : X.N.Nodup) (hi : X.N[i]? = some x) (hx : Loc X.env.scope x) (hf : X.fn x = true ∨ X.env.scope.names.lookup x = some .local) : PG X (.Name x pos) (tG X.K X.mg (.name i)) := by
  refine ⟨fun pins s σ H v u Q I r h => ?_⟩
  obtain ⟨Hs, env, d, env1, ok, rp, e, h⟩ := h
  cases e
  refine (pg_name hN hi hx hf).run pins s σ H v u Q I r (h _ (ok.setD rp) fun j hj => ?_)
  rw [List.getElem?_set_ne]
  intro e; exact hj (by simp [Tg.slots, e])
def gNames : List Nat → TGs
  | [] => gNil
  | i :: l => gCons (gName i) (gNames l)
theorem gNames_run : ∀ {l : List Nat} {vs : List V} {σ : L2.St} {H : Hp} {Q : L2.St → Hp → Prop}, vs.length = l.length → Q (setAllV σ l vs) H → gNames l vs σ H Q
  | [], [], _, _, _, _, h => ⟨rfl, h⟩
  | i :: l, v :: vs, σ, H, Q, e, h => ⟨v, vs, rfl, gNames_run (l := l) (vs := vs) (σ := σ.set i (some v)) (by simpa using e) h⟩
/-- the names of a tuple target -/
inductive NamesAt (X : Cx) : List Expr → List Nat → Prop where
  | nil : NamesAt X [] []
  | cons {i x p es l} : X.N[i]? = some x → Loc X.env.scope x → (X.fn x = true ∨ X.env.scope.names.lookup x = some .local) → NamesAt X es l → NamesAt X (.Name x p :: es) (i :: l)
theorem NamesAt.pgs (hN : X.N.Nodup) : ∀ {es : List Expr} {l : List Nat}, NamesAt X es l → PGs X es (gNames l)
  | _, _, .nil => pgs_nil
  | _, _, .cons h1 h2 h3 r => pgs_cons (pg_name hN h1 h2 h3) (r.pgs hN)
theorem NamesAt.len : ∀ {es : List Expr} {l : List Nat}, NamesAt X es l → (assignEach es X.env).length = l.length
  | _, _, .nil => rfl
  | _, _, .cons _ _ _ r => congrArg (· + 1) r.len
theorem NamesAt.nostar : ∀ {es : List Expr} {l : List Nat}, NamesAt X es l → (assignEach es X.env).findIdx? (·.1) = none
  | _, _, .nil => rfl
  | _, _, .cons (x := x) (p := p) (es := es) _ _ _ r => by
    show ((false, assign (.Name x p) X.env) :: assignEach es X.env).findIdx? (·.1) = none
    rw [List.findIdx?_cons, r.nostar]; rfl
theorem s_tgTup {es : List Expr} {l : List Nat} {kk : Nat} (hc : X.calm = true) (hN : X.N.Nodup) (n : NamesAt X es l) : PG X (.Tuple es kk pos) (tG X.K X.mg (.tup l)) := by
  refine ⟨fun pins s σ H v u Q I r h => ?_⟩
  obtain ⟨Hs, env, d, env1, ok, rp, e, h⟩ := h
  refine (pg_tup hc (n.pgs hN) (n := l.length) n.len n.nostar).run pins s σ H v u Q I r ?_
  cases rp with
  | tup q rs =>
    rename_i a vs xs
    have e : (if xs.length = l.length then some (setAll env l xs) else none) = some env1 := e
    by_cases hl : xs.length = l.length
    · rw [if_pos hl] at e; cases e
      exact ⟨_, vs, rfl, SqT_same ok.sub q, by rw [rs.length, hl], gNames_run (by rw [rs.length, hl]) (h _ (ok.setAll rs) fun j hj => setAllV_out hj)⟩
    · rw [if_neg hl] at e; cases e
  | _ => cases e
end

/-! ### blocks -/
section
variable {K : PySem.W.Frag} {mg : Str → Option Value} {Hs H Hs' H' : Hp} {σ σ2 : L2.St} {env env4 : En} {own : List Nat}
theorem wipeE_len : ∀ {own : List Nat}, (wipeE env own).length = env.length
  | [] => rfl
  | v :: vs => by show ((wipeE env vs).set v none).length = _; rw [List.length_set, wipeE_len]
theorem wipeE_out {j : Nat} : ∀ {own : List Nat}, j ∉ own → (wipeE env own)[j]? = env[j]?
  | [], _ => rfl
  | v :: vs, h => by
    simp only [List.mem_cons, not_or] at h
    show ((wipeE env vs).set v none)[j]? = _
    rw [List.getElem?_set_ne (Ne.symm h.1), wipeE_out h.2]
theorem wipeE_in {j : Nat} {rv : RV} : ∀ {own : List Nat}, j ∈ own → (wipeE env own)[j]? ≠ some (some rv)
  | v :: vs, h => by
    show ((wipeE env vs).set v none)[j]? ≠ _
    by_cases hj : v = j
    · subst hj
      intro e
      have hl : v < (wipeE env vs).length := by simpa using (List.getElem?_eq_some_iff.mp e).1
      rw [List.getElem?_set_self hl] at e
      cases e
    · rw [List.getElem?_set_ne hj]
      exact wipeE_in (by simpa [Ne.symm hj] using h)
theorem wipe_outS {j : Nat} : ∀ {own : List Nat}, j ∉ own → (wipe σ own)[j]? = σ[j]?
  | [], _ => rfl
  | v :: vs, h => by
    simp only [List.mem_cons, not_or] at h
    show ((wipe σ vs).set v none)[j]? = _
    rw [List.getElem?_set_ne (Ne.symm h.1), wipe_outS h.2]
theorem wipe_ext {own : List Nat} (hl : σ2.length = σ.length) (h : ∀ j, j ∉ own → σ2[j]? = σ[j]?) : wipe σ2 own = wipe σ own := by
  refine List.ext_getElem? fun j => ?_
  by_cases hj : j ∈ own
  · have key : ∀ (τ : L2.St) (own : List Nat), j ∈ own → (wipe τ own)[j]? = if j < τ.length then some none else none := fun τ own => by
      induction own with
      | nil => intro h; simp at h
      | cons v vs ih =>
        intro h
        show ((wipe τ vs).set v none)[j]? = _
        by_cases hv : v = j
        · subst hv
          by_cases hl : v < τ.length
          · rw [if_pos hl, List.getElem?_set_self (by rw [wipe_length]; exact hl)]
          · rw [if_neg hl, List.getElem?_eq_none (by rw [List.length_set, wipe_length]; omega)]
        · rw [List.getElem?_set_ne hv]
          exact ih (by simpa [Ne.symm hv] using h)
    rw [key σ2 own hj, key σ own hj, hl]
  · rw [wipe_outS hj, wipe_outS hj, h j hj]
theorem backE_len {env0 : En} (hl : env4.length = env0.length) : ∀ {own : List Nat}, (backE env0 env4 own).length = env0.length
  | [] => hl
  | v :: vs => by
    unfold backE
    cases env0[v]? with
    | some o => show ((backE env0 env4 vs).set v o).length = _; rw [List.length_set, backE_len hl]
    | none => exact backE_len hl
theorem backE_out {env0 : En} {j : Nat} : ∀ {own : List Nat}, j ∉ own → (backE env0 env4 own)[j]? = env4[j]?
  | [], _ => rfl
  | v :: vs, h => by
    simp only [List.mem_cons, not_or] at h
    unfold backE
    cases env0[v]? with
    | some o =>
      show ((backE env0 env4 vs).set v o)[j]? = _
      rw [List.getElem?_set_ne (Ne.symm h.1), backE_out h.2]
    | none => exact backE_out h.2
theorem backE_in {env0 : En} {j : Nat} (hl : env4.length = env0.length) : ∀ {own : List Nat}, j ∈ own → (backE env0 env4 own)[j]? = env0[j]?
  | v :: vs, h => by
    unfold backE
    by_cases hv : v = j
    · subst hv
      cases e : env0[v]? with
      | some o =>
        show ((backE env0 env4 vs).set v o)[v]? = _
        rw [List.getElem?_set_self (by rw [backE_len hl]; exact (List.getElem?_eq_some_iff.mp e).1)]
      | none =>
        show (backE env0 env4 vs)[v]? = _
        rw [List.getElem?_eq_none_iff] at e ⊢
        rw [backE_len hl]; exact e
    · have hm : j ∈ vs := by simpa [Ne.symm hv] using h
      cases e : env0[v]? with
      | some o =>
        show ((backE env0 env4 vs).set v o)[j]? = _
        rw [List.getElem?_set_ne hv, backE_in hl hm]
      | none => exact backE_in hl hm
/-- into a block -/
theorem blk_in (ok : EnvOk K mg Hs H σ env) : EnvOk K mg Hs H (wipe σ own) (wipeE env own) := by
  have out : ∀ (j : Nat) (rv : RV), (wipeE env own)[j]? = some (some rv) → j ∉ own ∧ env[j]? = some (some rv) := fun j rv e => by
    by_cases hj : j ∈ own
    · exact absurd e (wipeE_in hj)
    · rw [wipeE_out hj] at e; exact ⟨hj, e⟩
  refine ⟨ok.sub, by rw [wipe_length, wipeE_len]; exact ok.len, fun j rv e => ?_, fun i j r r' a hij e1 e2 o1 o2 s1 s2 => ?_⟩
  · obtain ⟨hj, e⟩ := out j rv e
    obtain ⟨v, s, w⟩ := ok.at_ j rv e
    exact ⟨v, by rw [wipe_outS hj]; exact s, w⟩
  · obtain ⟨h1, e1⟩ := out i r e1
    obtain ⟨h2, e2⟩ := out j r' e2
    rw [wipe_outS h1] at s1
    rw [wipe_outS h2] at s2
    exact ok.sep i j r r' a hij e1 e2 o1 o2 s1 s2
theorem blk_ft (ok : EnvOk K mg Hs H σ env) {b : Addr} (f : Ft (wipe σ own) (wipeE env own) b) : ∃ (i : Nat) (rv : RV), i ∉ own ∧ env[i]? = some (some rv) ∧ rv.own = true ∧ σ[i]? = some (some (.ref b)) := by
  obtain ⟨i, rv, e, o, s⟩ := f
  by_cases hj : i ∈ own
  · exact absurd e (wipeE_in hj)
  · rw [wipeE_out hj] at e
    rw [wipe_outS hj] at s
    exact ⟨i, rv, hj, e, o, s⟩
/-- out of a block: G what may have been changed -/
theorem blk_out {G : Addr → Prop} (ok : EnvOk K mg Hs H σ env) (t : T G Hs H Hs' H') (hG : ∀ b, G b → Ft (wipe σ own) (wipeE env own) b ∨ ¬ Ft σ env b) (ok4 : EnvOk K mg Hs' H' σ2 env4) (h2 : ∀ j, j ∉ own → σ2[j]? = σ[j]?) (hl : env4.length = env.length)
    (sb : ∀ (j : Nat) (rv : RV), j ∉ own → env4[j]? = some (some rv) → rv.own = true → ∃ rv0, env[j]? = some (some rv0) ∧ rv0.own = true) (st : ∀ (j : Nat) (rv : RV), j ∉ own → env[j]? = some (some rv) → ∃ rv', env4[j]? = some (some rv')) :
    EnvOk K mg Hs' H' σ (backE env env4 own) ∧ Go env (backE env env4 own) := by
  have sub : Sub env (backE env env4 own) := fun j rv e o => by
    by_cases hj : j ∈ own
    · rw [backE_in hl hj] at e; exact ⟨rv, e, o⟩
    · rw [backE_out hj] at e; exact sb j rv hj e o
  refine ⟨⟨ok4.sub, by rw [backE_len hl]; exact ok.len, fun j rv e => ?_, fun i j r r' a hij e1 e2 o1 o2 s1 s2 => ?_⟩, sub, fun j rv e => ?_, backE_len hl⟩
  · by_cases hj : j ∈ own
    · rw [backE_in hl hj] at e
      obtain ⟨v, s, w⟩ := ok.at_ j rv e
      refine ⟨v, s, w.keep t fun o a ea f => ?_⟩
      rcases hG a f with z | z
      · obtain ⟨i, r, hi, e1, o1, s1⟩ := blk_ft ok z
        exact ok.sep j i rv r a (fun q => hi (q ▸ hj)) e e1 o o1 (by rw [s, ea]) s1
      · exact z ⟨j, rv, e, o, by rw [s, ea]⟩
    · rw [backE_out hj] at e
      obtain ⟨v, s, w⟩ := ok4.at_ j rv e
      exact ⟨v, by rw [← h2 j hj]; exact s, w⟩
  · obtain ⟨q1, e1', o1'⟩ := sub i r e1 o1
    obtain ⟨q2, e2', o2'⟩ := sub j r' e2 o2
    exact ok.sep i j q1 q2 a hij e1' e2' o1' o2' s1 s2
  · by_cases hj : j ∈ own
    · exact ⟨rv, by rw [backE_in hl hj]; exact e⟩
    · obtain ⟨rv', e'⟩ := st j rv hj e
      exact ⟨rv', by rw [backE_out hj]; exact e'⟩
end
end Mp
namespace Mp
open PySem PySem.Spec PyProof.Rows L2
section
variable {K : PySem.W.Frag} {mg : Str → Option Value} {Hs H Hs' H' Hs3 H3 Hs5 H5 : Hp} {σ σ2 : L2.St} {env env2 e1 e3 : En} {own : List Nat} {tg : Tg} {d : D} {D0 : Addr} {o o' : HO}
theorem T.out {F : Addr → Prop} (t : T F Hs H Hs' H') (n : ¬ F D0) (h : H D0 = some o) (hs : Hs D0 = none) : H' D0 = some o ∧ Hs' D0 = none := by
  refine ⟨t.frame _ _ h n, ?_⟩
  cases q : Hs' D0 with
  | none => rfl
  | some u =>
    rcases t.shr D0 (by rw [q]; simp) with z | z | z
    · exact absurd hs z
    · exact absurd z n
    · rw [h] at z; cases z
/-- an untouched object of ours is changed -/
theorem chg (ok : EnvOk K mg Hs H σ env) (h : H D0 = some o) (hs : Hs D0 = none) (n : ¬ Ft σ env D0) : EnvOk K mg Hs (upd H D0 o') σ env ∧ T (fun b => b = D0) Hs H Hs (upd H D0 o') := by
  have s : Same Hs (upd H D0 o') := fun b u q => by
    by_cases e : b = D0
    · subst e; rw [hs] at q; cases q
    · rw [upd_ne e]; exact ok.sub b u q
  have t : T (fun b => b = D0) Hs H Hs (upd H D0 o') := ⟨Same.refl _, fun b u q n => by rw [upd_ne n]; exact q, fun b q => by
    by_cases e : b = D0
    · subst e; rw [upd_same] at q; cases q
    · rw [upd_ne e] at q; exact q, fun b q => .inl q⟩
  exact ⟨ok.keep t s fun b e f => n (e ▸ f), t⟩
theorem blk_turn (ok3 : EnvOk K mg Hs3 H3 σ env2) (hb : bindT tg d (wipeE env2 own) = some e1) (hsub : ∀ i ∈ tg.slots, i ∈ own) (hσ : ∀ j, j ∉ tg.slots → σ2[j]? = (wipe σ own)[j]?) (a : Aft K mg Hs3 H3 σ2 e1 Hs5 H5 e3) :
    Aft K mg Hs3 H3 σ env2 Hs5 H5 (backE env2 e3 own) ∧ (∀ b, Ft σ2 e1 b → Ft σ env2 b) := by
  obtain ⟨g, gb⟩ := bindT_go hb
  have hF : ∀ b, Ft σ2 e1 b → Ft (wipe σ own) (wipeE env2 own) b := fun b f => by
    obtain ⟨i, rv, e, o, s⟩ := f
    obtain ⟨r, e', o'⟩ := g.sub i rv e o
    have hi : i ∉ own := fun z => absurd e' (wipeE_in z)
    exact ⟨i, r, e', o', by rw [← hσ i fun z => hi (hsub i z)]; exact s⟩
  have hF2 : ∀ b, Ft σ2 e1 b → Ft σ env2 b := fun b f => by
    obtain ⟨i, rv, _, e, o, s⟩ := blk_ft ok3 (hF b f)
    exact ⟨i, rv, e, o, s⟩
  obtain ⟨ok6, g6⟩ := blk_out (own := own) ok3 a.t (fun b f => .inl (hF b f)) a.ok (fun j hj => by rw [hσ j fun z => hj (hsub j z), wipe_outS hj]) (by rw [a.go.len, g.len, wipeE_len])
    (fun j rv hj e o => by
      obtain ⟨r1, q1, o1⟩ := a.go.sub j rv e o
      obtain ⟨r2, q2, o2⟩ := g.sub j r1 q1 o1
      rw [wipeE_out hj] at q2
      exact ⟨r2, q2, o2⟩)
    (fun j rv hj e => by
      obtain ⟨r1, q1⟩ := g.stay j rv (by rw [wipeE_out hj]; exact e)
      exact a.go.stay j r1 q1)
  exact ⟨⟨a.t.mono fun b f => .inl (hF2 b f), ok6, g6⟩, hF2⟩
theorem blk_wipe (ok3 : EnvOk K mg Hs3 H3 σ env2) (hb : bindT tg d (wipeE env2 own) = some e1) (hsub : ∀ i ∈ tg.slots, i ∈ own) (hσ : ∀ j, j ∉ tg.slots → σ2[j]? = (wipe σ own)[j]?) (ok5 : EnvOk K mg Hs3 H3 σ2 e1) : wipe σ2 own = wipe σ own := by
  obtain ⟨g, _⟩ := bindT_go hb
  refine wipe_ext ?_ fun j hj => by rw [hσ j fun z => hj (hsub j z), wipe_outS hj]
  rw [ok5.len, g.len, wipeE_len, ok3.len]
theorem drop_cons {α : Type} {xs : List α} {i : Nat} {d : α} (h : xs[i]? = some d) : xs.drop i = d :: xs.drop (i + 1) := by
  obtain ⟨hl, e⟩ := List.getElem?_eq_some_iff.mp h
  rw [List.drop_eq_getElem_cons hl, e]

/-- so far: what env owned and D may have been changed -/
structure AftD (K : PySem.W.Frag) (mg : Str → Option Value) (D : Addr) (Hs H : Hp) (σ : L2.St) (env : En) (Hs1 H1 : Hp) (env1 : En) : Prop where
  t : T (fun b => Ft σ env b ∨ b = D) Hs H Hs1 H1
  ok : EnvOk K mg Hs1 H1 σ env1
  go : Go env env1
theorem AftD.aft {Hs1 H1 : Hp} {env1 : En} (a : AftD K mg D0 Hs H σ env Hs1 H1 env1) (h : H D0 = none) : Aft K mg Hs H σ env Hs1 H1 env1 := ⟨a.t.mono fun b f => f.imp id fun e => by rw [e]; exact h, a.ok, a.go⟩
theorem AftD.step {Hs1 H1 Hs2 H2 : Hp} {env1 env2 : En} {F : Addr → Prop} (a : AftD K mg D0 Hs H σ env Hs1 H1 env1) (t : T F Hs1 H1 Hs2 H2) (f : ∀ b, F b → Ft σ env1 b ∨ b = D0) (ok : EnvOk K mg Hs2 H2 σ env2) (g : Go env1 env2) : AftD K mg D0 Hs H σ env Hs2 H2 env2 :=
  ⟨a.t.trans t fun b q => .inl ((f b q).imp (a.go.sub.ft ·) id), ok, a.go.trans g⟩
def lcBody (hold : En → Prop) (own : List Nat) (tg : Tg) (cond : SEs) (elt : SE) : Mp.D → En → (Option Mp.D → En → Prop) → Prop := fun x e K' => hold e ∧ ∃ e1, bindT tg x (wipeE e own) = some e1 ∧ denC nx0 cond e1 fun b e2 =>
  if b = true then kept (den2 nx0 elt).v e2 fun y e3 => K' (some y) (backE e e3 own) else K' none (backE e e2 own)
theorem lcTurns {elt : SE} {cond : SEs} (hsub : ∀ i ∈ tg.slots, i ∈ own) {J : It} {xs : List Mp.D} {Hs1 H1 : Hp} {env1 : En} {D : Addr} {vacc0 : List V} {acc0 : List Mp.D} {Kf : List Mp.D → En → Prop} {Qe : Hp → Prop} {hold : En → Prop}
    (wk : WalkH K mg σ hold Hs1 J xs) (ok1 : EnvOk K mg Hs1 H1 σ env1) (nD0 : ¬ Ft σ env1 D) (hsD : Hs1 D = none) (hD : H1 D = some (.lst vacc0)) (racc0 : Reps K mg Hs1 vacc0 acc0) (k : lcLoop (lcBody hold own tg cond elt) xs acc0 env1 (fun acc e => hold e ∧ Kf acc e))
    (fin : ∀ acc env2 Hs2 H2 vacc, Kf acc env2 → AftD K mg D Hs1 H1 σ env1 Hs2 H2 env2 → Hs2 D = none → H2 D = some (.lst vacc) → Reps K mg Hs2 vacc acc → Qe H2) :
    ∃ W : Nat → Nat → Hp → Prop, (∃ m, W 0 m H1) ∧ ∀ i m H, W i m H →
      (J.stop i H ∧ Qe H) ∨ (J.go i H ∧ ∃ Nx : Hp → Prop, (∀ H', Nx H' → ∃ m', m' < m ∧ W (i + 1) m' H') ∧ ∀ x H', J.yld i H x H' → tG K mg tg x (wipe σ own) H' fun σ2 H2 => wipe σ2 own = wipe σ own ∧ tT K mg (denC nx0 cond) σ2 H2 fun b H3 =>
        if b = true then gh (tV K mg (den2 nx0 elt).v) σ2 H3 fun y H4 => ∃ acc, H4 D = some (.lst acc) ∧ acc.length < sizeLine ∧ Nx (upd H4 D (.lst (acc ++ [y]))) else Nx H3) := by
  have nD : ∀ {env' : En}, Go env1 env' → ¬ Ft σ env' D := fun g f => nD0 (g.sub.ft f)
  refine ⟨fun i m H2 => m = xs.length - i ∧ i ≤ xs.length ∧ ∃ Hs2 env2 vacc acc, AftD K mg D Hs1 H1 σ env1 Hs2 H2 env2 ∧ Hs2 D = none ∧ H2 D = some (.lst vacc) ∧ Reps K mg Hs2 vacc acc ∧ lcLoop (lcBody hold own tg cond elt) (xs.drop i) acc env2 (fun acc e => hold e ∧ Kf acc e),
    ⟨_, rfl, Nat.zero_le _, Hs1, env1, vacc0, acc0, ⟨T.refl, ok1, Go.refl⟩, hsD, hD, racc0, k⟩, ?_⟩
  rintro i m H2 ⟨rfl, hi, Hs2, env2, vacc, acc, a, hsD2, hD2, racc, k2⟩
  cases hx : xs[i]? with
  | none =>
    rw [List.drop_eq_nil_of_le (List.getElem?_eq_none_iff.mp hx)] at k2
    refine .inl ⟨(wk Hs2 H2 env2 a.t.same a.ok k2.1 i).2 hx, ?_⟩
    exact fin _ env2 Hs2 H2 vacc k2.2 a hsD2 hD2 racc
  | some d =>
    have hho : hold env2 := by rw [drop_cons hx] at k2; exact k2.1
    obtain ⟨go, yl⟩ := (wk Hs2 H2 env2 a.t.same a.ok hho i).1 d hx
    have hlt : i < xs.length := (List.getElem?_eq_some_iff.mp hx).1
    rw [drop_cons hx] at k2
    refine .inr ⟨go, fun H' => ∃ Hs2 env2 vacc acc, AftD K mg D Hs1 H1 σ env1 Hs2 H' env2 ∧ Hs2 D = none ∧ H' D = some (.lst vacc) ∧ Reps K mg Hs2 vacc acc ∧ lcLoop (lcBody hold own tg cond elt) (xs.drop (i + 1)) acc env2 (fun acc e => hold e ∧ Kf acc e),
      fun H' n => ⟨xs.length - (i + 1), by omega, rfl, hlt, n⟩, fun x H3 y => ?_⟩
    obtain ⟨Hs3, q1, q2, q3, q4, rx⟩ := yl x H3 y
    have t3 : T (fun _ => False) Hs2 H2 Hs3 H3 := T.new q1 q2 q4
    have ok3 := a.ok.keep t3 q3 fun _ f => f.elim
    obtain ⟨hD3, hsD3⟩ := t3.out (fun f => f) hD2 hsD2
    obtain ⟨_, e1, hb, wc⟩ := k2
    refine ⟨Hs3, wipeE env2 own, d, e1, blk_in ok3, rx, hb, fun σ2 ok5 hσ => ⟨blk_wipe ok3 hb hsub hσ ok5, Hs3, e1, _, ok5, wc, fun b e2 k3 Hs4 H4 a4 => ?_⟩⟩
    have fin : ∀ {Hs5 H5 : Hp} {e3 : En}, Aft K mg Hs3 H3 σ2 e1 Hs5 H5 e3 → AftD K mg D Hs1 H1 σ env1 Hs5 H5 (backE env2 e3 own) ∧ H5 D = some (.lst vacc) ∧ Hs5 D = none := fun {Hs5 H5 e3} a5 => by
      obtain ⟨a6, hF⟩ := blk_turn ok3 hb hsub hσ a5
      have a3 : Aft K mg Hs2 H2 σ env2 Hs3 H3 env2 := ⟨t3.mono fun _ f => f.elim, ok3, Go.refl⟩
      have a36 := a3.trans a6
      exact ⟨a.step a36.t (fun b f => .inl f) a36.ok a36.go, a5.t.out (fun f => nD a.go (hF _ f)) hD3 hsD3⟩
    cases b with
    | false =>
      obtain ⟨a6, hD5, hsD5⟩ := fin a4
      have s5 : Same Hs2 Hs4 := q1.trans a4.t.same
      exact ⟨Hs4, _, vacc, acc, a6, hsD5, hD5, racc.mono s5, k3⟩
    | true =>
      refine useD a4.ok k3 fun y e3 v Hs5 H5 k5 a5 ry => ?_
      obtain ⟨a6, hD5, hsD5⟩ := fin (a4.trans a5)
      obtain ⟨hz, k5⟩ := k5
      have s5 : Same Hs2 Hs5 := q1.trans (a4.trans a5).t.same
      refine ⟨vacc, hD5, by rw [racc.length]; exact hz, Hs5, _, vacc ++ [v], acc ++ [y], ?_, hsD5, upd_same, (racc.mono s5).append (.cons ry .nil), k5⟩
      obtain ⟨ok7, t7⟩ := chg (o' := .lst (vacc ++ [v])) a6.ok hD5 hsD5 (nD a6.go)
      exact a6.step t7 (fun b e => .inr e) ok7 Go.refl
theorem lc_read {elt : SE} {cond : SEs} {src : Src} (hsub : ∀ i ∈ tg.slots, i ∈ own) {Q : VK} (h : tV K mg (den2 nx0 (.lc own tg src cond elt)).v σ H Q) :
    tLc (tSrcH K mg src.hold (denSrc nx0 src)) (tG K mg tg) (tT K mg (denC nx0 cond)) (gh (tV K mg (den2 nx0 elt).v)) own σ H Q := by
  obtain ⟨Hs, env, Kc, ok, w, h⟩ := h
  refine ⟨Hs, env, _, ok, w, fun xs env1 k J Hs1 H1 a1 wk D hD => ?_⟩
  obtain ⟨a2, hsD⟩ := fresh_lst (H0 := H) (o := .lst []) a1.ok hD
  have nD : ∀ {env' : En}, Go env1 env' → ¬ Ft σ env' D := fun g f => (a1.ok.ftNone (g.sub.ft f)).2 hD
  refine lcTurns (Qe := fun H' => Q (.ref D) H') hsub wk a2.ok (nD Go.refl) hsD upd_same .nil k fun acc env2 Hs2 H2 vacc kf a hs2 hd2 r2 => ?_
  have a3 : Aft K mg Hs1 H1 σ env1 Hs2 H2 env2 := a2.step a.t (fun b f => f.imp id fun e => by rw [e]; exact hD) a.ok a.go
  exact h _ env2 kf _ Hs2 H2 (a1.trans a3) ⟨⟨D, vacc, rfl, hd2, hs2, r2⟩, fun _ b e => by cases e; exact a1.t.dom _ hD⟩
theorem lc2_read {own1 : List Nat} {tg1 : Tg} {elt : SE} {cond cond1 : SEs} {src src1 : Src} (hsub : ∀ i ∈ tg.slots, i ∈ own) (hsub1 : ∀ i ∈ tg1.slots, i ∈ own1) {Q : VK} (h : tV K mg (den2 nx0 (.lc2 own own1 tg src cond tg1 src1 cond1 elt)).v σ H Q) :
    tLc2 (tSrc K mg (denSrc nx0 src)) (tG K mg tg) (tT K mg (denC nx0 cond)) (tSrc K mg (denSrc nx0 src1)) (tG K mg tg1) (tT K mg (denC nx0 cond1)) (gh (tV K mg (den2 nx0 elt).v)) own own1 σ H Q := by
  obtain ⟨Hs, env, Kc, ok, w, h⟩ := h
  refine ⟨Hs, env, _, ok, w, fun xs env1 k J Hs1 H1 a1 wk D hD => ?_⟩
  obtain ⟨a2, hsD⟩ := fresh_lst (H0 := H) (o := .lst []) a1.ok hD
  have nD : ∀ {env' : En}, Go env1 env' → ¬ Ft σ env' D := fun g f => (a1.ok.ftNone (g.sub.ft f)).2 hD
  refine ⟨fun i m H2 => m = xs.length - i ∧ i ≤ xs.length ∧ ∃ Hs2 env2 vacc acc, Aft K mg Hs1 H1 σ env1 Hs2 H2 env2 ∧ Hs2 D = none ∧ H2 D = some (.lst vacc) ∧ Reps K mg Hs2 vacc acc ∧ lc2Loop _ (xs.drop i) acc env2 _,
    ⟨_, rfl, Nat.zero_le _, Hs1, env1, [], [], a2, hsD, upd_same, .nil, k⟩, ?_⟩
  rintro i m H2 ⟨rfl, hi, Hs2, env2, vacc, acc, a, hsD2, hD2, racc, k2⟩
  have wk2 := wk Hs2 H2 a.t.same a.ok.sub i
  cases hx : xs[i]? with
  | none =>
    refine .inl ⟨wk2.2 hx, ?_⟩
    rw [List.drop_eq_nil_of_le (List.getElem?_eq_none_iff.mp hx)] at k2
    exact h _ env2 k2 _ Hs2 H2 (a1.trans a) ⟨⟨D, vacc, rfl, hD2, hsD2, racc⟩, fun _ b e => by cases e; exact a1.t.dom _ hD⟩
  | some d =>
    obtain ⟨go, yl⟩ := wk2.1 d hx
    have hlt : i < xs.length := (List.getElem?_eq_some_iff.mp hx).1
    rw [drop_cons hx] at k2
    refine .inr ⟨go, fun H' => ∃ Hs2 env2 vacc acc, Aft K mg Hs1 H1 σ env1 Hs2 H' env2 ∧ Hs2 D = none ∧ H' D = some (.lst vacc) ∧ Reps K mg Hs2 vacc acc ∧ lc2Loop _ (xs.drop (i + 1)) acc env2 _,
      fun H' n => ⟨xs.length - (i + 1), by omega, rfl, hlt, n⟩, fun x H3 y => ?_⟩
    obtain ⟨Hs3, q1, q2, q3, q4, rx⟩ := yl x H3 y
    have t3 : T (fun _ => False) Hs2 H2 Hs3 H3 := T.new q1 q2 q4
    have ok3 := a.ok.keep t3 q3 fun _ f => f.elim
    obtain ⟨hD3, hsD3⟩ := t3.out (fun f => f) hD2 hsD2
    obtain ⟨e1, hb, wc⟩ := k2
    refine ⟨Hs3, wipeE env2 own, d, e1, blk_in ok3, rx, hb, fun σ2 ok5 hσ => ⟨blk_wipe ok3 hb hsub hσ ok5, Hs3, e1, _, ok5, wc, fun b e2 k3 Hs4 H4 a4 => ?_⟩⟩
    have nD2 : ¬ Ft σ2 e1 D := fun f => nD a.go ((blk_turn ok3 hb hsub hσ (Aft.refl ok5)).2 _ f)
    have a3 : Aft K mg Hs2 H2 σ env2 Hs3 H3 env2 := ⟨t3.mono fun _ f => f.elim, ok3, Go.refl⟩
    cases b with
    | false =>
      obtain ⟨a6, hF⟩ := blk_turn ok3 hb hsub hσ a4
      obtain ⟨hD5, hsD5⟩ := a4.t.out nD2 hD3 hsD3
      have s5 : Same Hs2 Hs4 := q1.trans a4.t.same
      exact ⟨Hs4, _, vacc, acc, a.trans (a3.trans a6), hsD5, hD5, racc.mono s5, k3⟩
    | true =>
      refine ⟨Hs4, e2, _, a4.ok, k3, fun ys e3 k5 J1 Hs5 H5 a5 wk5 => ?_⟩
      have a45 := a4.trans a5
      obtain ⟨hD5, hsD5⟩ := a45.t.out nD2 hD3 hsD3
      have s5 : Same Hs2 Hs5 := q1.trans a45.t.same
      refine lcTurns (hold := src1.hold ys) hsub1 wk5.h a5.ok (fun f => nD2 (a45.go.sub.ft f)) hsD5 hD5 (racc.mono s5) k5 fun acc1 e7 Hs6 H6 vacc1 kf a6 hs6 hd6 r6 => ?_
      -- the inner loop's end, back in the outer block's env: D apart, D is new since H1
      have tD : T (fun b => Ft σ2 e1 b ∨ b = D) Hs3 H3 Hs6 H6 := (a45.t.mono (F1 := fun b => Ft σ2 e1 b ∨ b = D) fun b f => .inl (.inl f)).trans a6.t fun b f => .inl (f.imp (a45.go.sub.ft ·) id)
      have g17 := a45.go.trans a6.go
      have hF2 := (blk_turn ok3 hb hsub hσ (Aft.refl ok5)).2
      obtain ⟨g, gb⟩ := bindT_go hb
      have hF : ∀ b, Ft σ2 e1 b → Ft (wipe σ own) (wipeE env2 own) b := fun b f => by
        obtain ⟨i, rv, e, o, s⟩ := f
        obtain ⟨r, e', o'⟩ := g.sub i rv e o
        have hi : i ∉ own := fun z => absurd e' (wipeE_in z)
        exact ⟨i, r, e', o', by rw [← hσ i fun z => hi (hsub i z)]; exact s⟩
      obtain ⟨ok8, g8⟩ := blk_out (own := own) ok3 tD (fun b f => f.imp (hF b) fun (e : b = D) w => by subst e; exact nD a.go w) a6.ok (fun j hj => by rw [hσ j fun z => hj (hsub j z), wipe_outS hj]) (by rw [g17.len, g.len, wipeE_len])
        (fun j rv hj e o => by
          obtain ⟨r1, q1, o1⟩ := g17.sub j rv e o
          obtain ⟨r2, q2, o2⟩ := g.sub j r1 q1 o1
          rw [wipeE_out hj] at q2
          exact ⟨r2, q2, o2⟩)
        (fun j rv hj e => by
          obtain ⟨r1, q1⟩ := g.stay j rv (by rw [wipeE_out hj]; exact e)
          exact g17.stay j r1 q1)
      have a8 : Aft K mg Hs1 H1 σ env1 Hs6 H6 (backE env2 e7 own) := (a.trans a3).step tD (fun b f => f.imp (hF2 b) fun e => by rw [e]; exact hD) ok8 g8
      exact ⟨Hs6, _, vacc1, acc1, a8, hs6, hd6, r6, kf⟩
theorem RepK.any {k : Key} : ∀ {ks : List (Key × V)} {kvs : List (Key × Mp.D)}, RepK K mg Hs ks kvs → (ks.any fun p => decide (p.1 = k)) = kvs.any fun p => decide (p.1 = k)
  | _, _, .nil => rfl
  | _, _, .cons _ r => by rw [List.any_cons, List.any_cons, r.any]
theorem RepK.repl {k : Key} {v : V} {x : Mp.D} (h : Rep K mg Hs v x) : ∀ {ks : List (Key × V)} {kvs : List (Key × Mp.D)}, RepK K mg Hs ks kvs →
    RepK K mg Hs (ks.map fun p => if p.1 = k then (p.1, v) else p) (kvs.map fun p => if p.1 = k then (p.1, x) else p)
  | _, _, .nil => .nil
  | _, _, .cons (k := j) q r => by
    rw [List.map_cons, List.map_cons]
    by_cases e : j = k
    · rw [if_pos (show (j, _).1 = k from e), if_pos (show (j, _).1 = k from e)]; exact .cons h (r.repl h)
    · rw [if_neg (show ¬ (j, _).1 = k from e), if_neg (show ¬ (j, _).1 = k from e)]; exact .cons q (r.repl h)
theorem RepK.snoc {k : Key} {v : V} {x : Mp.D} (h : Rep K mg Hs v x) : ∀ {ks : List (Key × V)} {kvs : List (Key × Mp.D)}, RepK K mg Hs ks kvs → RepK K mg Hs (ks ++ [(k, v)]) (kvs ++ [(k, x)])
  | _, _, .nil => .cons h .nil
  | _, _, .cons q r => .cons q (r.snoc h)
theorem RepK.put {k : Key} {v : V} {x : Mp.D} {ks : List (Key × V)} {kvs : List (Key × Mp.D)} (r : RepK K mg Hs ks kvs) (h : Rep K mg Hs v x) : RepK K mg Hs (putK ks k v) (putD kvs k x) := by
  unfold putK putD
  have e : (ks.any fun p => decide (p.1 = k)) = kvs.any fun p => decide (p.1 = k) := r.any
  rw [e]
  split
  · exact r.repl h
  · exact r.snoc h
theorem RepK.getD {k : Key} {x : Mp.D} : ∀ {ks : List (Key × V)} {kvs : List (Key × Mp.D)}, RepK K mg Hs ks kvs → Mp.getD kvs k = some x → ∃ v, valV ks k = some v ∧ Rep K mg Hs v x
  | _, _, .nil, e => by cases e
  | _, _, .cons (k := j) (v := v) (d := d) q r, e => by
    by_cases hj : j = k
    · subst hj
      have e' : x = d := by simpa [Mp.getD, eq_comm] using e
      subst e'
      exact ⟨v, valV_pos rfl, q⟩
    · obtain ⟨v', h1, h2⟩ := r.getD (k := k) (x := x) (by simpa [Mp.getD, List.find?_cons, hj] using e)
      exact ⟨v', by rw [valV_neg (p := (j, v)) hj]; exact h1, h2⟩
theorem RepK.getN {k : Key} : ∀ {ks : List (Key × V)} {kvs : List (Key × Mp.D)}, RepK K mg Hs ks kvs → Mp.getD kvs k = none → valV ks k = none
  | _, _, .nil, _ => rfl
  | _, _, .cons (k := j) (v := v) (d := d) q r, e => by
    by_cases hj : j = k
    · subst hj
      have e' : False := by simpa [Mp.getD] using e
      exact e'.elim
    · rw [valV_neg (p := (j, v)) hj]
      exact r.getN (k := k) (by simpa [Mp.getD, List.find?_cons, hj] using e)
theorem key_rep {kd : Mp.D} {ky : Key} {v : V} (e : keyOf kd = some ky) (r : Rep K mg Hs v kd) : v = kV ky := by
  cases r with
  | int => cases e; rfl
  | str => cases e; rfl
  | _ => cases e
theorem dc_read {ke ve : SE} {cond : SEs} {src : Src} (hsub : ∀ i ∈ tg.slots, i ∈ own) {Q : VK} (h : tV K mg (den2 nx0 (.dc own tg src cond ke ve)).v σ H Q) :
    tDc (tSrc K mg (denSrc nx0 src)) (tG K mg tg) (tT K mg (denC nx0 cond)) (gh (tV K mg (den2 nx0 ke).v)) (gh (tV K mg (den2 nx0 ve).v)) own σ H Q := by
  obtain ⟨Hs, env, Kc, ok, w, h⟩ := h
  refine ⟨Hs, env, _, ok, w, fun xs env1 k J Hs1 H1 a1 wk D hD => ?_⟩
  obtain ⟨a2, hsD⟩ := fresh_lst (H0 := H) (o := .dK []) a1.ok hD
  have nD : ∀ {env' : En}, Go env1 env' → ¬ Ft σ env' D := fun g f => (a1.ok.ftNone (g.sub.ft f)).2 hD
  refine ⟨fun i m H2 => m = xs.length - i ∧ i ≤ xs.length ∧ ∃ Hs2 env2 vacc acc, Aft K mg Hs1 H1 σ env1 Hs2 H2 env2 ∧ Hs2 D = none ∧ H2 D = some (.dK vacc) ∧ RepK K mg Hs2 vacc acc ∧ dcLoop _ (xs.drop i) acc env2 _,
    ⟨_, rfl, Nat.zero_le _, Hs1, env1, [], [], a2, hsD, upd_same, .nil, k⟩, ?_⟩
  rintro i m H2 ⟨rfl, hi, Hs2, env2, vacc, acc, a, hsD2, hD2, racc, k2⟩
  have wk2 := wk Hs2 H2 a.t.same a.ok.sub i
  cases hx : xs[i]? with
  | none =>
    refine .inl ⟨wk2.2 hx, ?_⟩
    rw [List.drop_eq_nil_of_le (List.getElem?_eq_none_iff.mp hx)] at k2
    exact h _ env2 k2 _ Hs2 H2 (a1.trans a) ⟨⟨D, vacc, rfl, hD2, hsD2, racc⟩, fun _ b e => by cases e; exact a1.t.dom _ hD⟩
  | some d =>
    obtain ⟨go, yl⟩ := wk2.1 d hx
    have hlt : i < xs.length := (List.getElem?_eq_some_iff.mp hx).1
    rw [drop_cons hx] at k2
    refine .inr ⟨go, fun H' => ∃ Hs2 env2 vacc acc, Aft K mg Hs1 H1 σ env1 Hs2 H' env2 ∧ Hs2 D = none ∧ H' D = some (.dK vacc) ∧ RepK K mg Hs2 vacc acc ∧ dcLoop _ (xs.drop (i + 1)) acc env2 _,
      fun H' n => ⟨xs.length - (i + 1), by omega, rfl, hlt, n⟩, fun x H3 y => ?_⟩
    obtain ⟨Hs3, q1, q2, q3, q4, rx⟩ := yl x H3 y
    have t3 : T (fun _ => False) Hs2 H2 Hs3 H3 := T.new q1 q2 q4
    have ok3 := a.ok.keep t3 q3 fun _ f => f.elim
    obtain ⟨hD3, hsD3⟩ := t3.out (fun f => f) hD2 hsD2
    obtain ⟨e1, hb, wc⟩ := k2
    refine ⟨Hs3, wipeE env2 own, d, e1, blk_in ok3, rx, hb, fun σ2 ok5 hσ => ⟨blk_wipe ok3 hb hsub hσ ok5, Hs3, e1, _, ok5, wc, fun b e2 k3 Hs4 H4 a4 => ?_⟩⟩
    have fin : ∀ {Hs5 H5 : Hp} {e3 : En}, Aft K mg Hs3 H3 σ2 e1 Hs5 H5 e3 → Aft K mg Hs1 H1 σ env1 Hs5 H5 (backE env2 e3 own) ∧ H5 D = some (.dK vacc) ∧ Hs5 D = none := fun {Hs5 H5 e3} a5 => by
      obtain ⟨a6, hF⟩ := blk_turn ok3 hb hsub hσ a5
      have a3 : Aft K mg Hs2 H2 σ env2 Hs3 H3 env2 := ⟨t3.mono fun _ f => f.elim, ok3, Go.refl⟩
      exact ⟨a.trans (a3.trans a6), a5.t.out (fun f => nD a.go (hF _ f)) hD3 hsD3⟩
    cases b with
    | false =>
      obtain ⟨a6, hD5, hsD5⟩ := fin a4
      have s5 : Same Hs2 Hs4 := q1.trans a4.t.same
      exact ⟨Hs4, _, vacc, acc, a6, hsD5, hD5, racc.mono s5, k3⟩
    | true =>
      refine useD a4.ok k3 fun kd e3 kv Hs5 H5 k5 a5 rk => useD a5.ok k5 fun y e4 v Hs6 H6 k6 a6' ry => ?_
      obtain ⟨ky, ek, hz, k6⟩ := k6
      obtain ⟨a6, hD5, hsD5⟩ := fin ((a4.trans a5).trans a6')
      have s5 : Same Hs2 Hs6 := q1.trans ((a4.trans a5).trans a6').t.same
      refine ⟨vacc, ky, key_rep ek rk, hD5, by rw [racc.length]; exact hz, Hs6, _, _, _, ?_, hsD5, upd_same, (racc.mono s5).put ry, k6⟩
      obtain ⟨ok7, t7⟩ := chg (o' := .dK (putK vacc ky v)) a6.ok hD5 hsD5 (nD a6.go)
      exact a6.step t7 (fun b e => .inr (by rw [e]; exact hD)) ok7 Go.refl
end
end Mp
namespace Mp
open PySem PySem.Spec PyProof.Rows L2

def New (bor : Nat → Bool) (H0 : Hp) (σ : L2.St) (env : En) : Prop := ∀ (i : Nat) (rv : RV) (a : Addr), bor i = false → env[i]? = some (some rv) → rv.own = true → σ[i]? = some (some (.ref a)) → H0 a = none
structure AftS (K : PySem.W.Frag) (mg : Str → Option Value) (bor : Nat → Bool) (H0 Hs H : Hp) (σ : L2.St) (env : En) (Hs1 H1 : Hp) (σ1 : L2.St) (env1 : En) : Prop where
  t : T (Ft σ env) Hs H Hs1 H1
  ok : EnvOk K mg Hs1 H1 σ1 env1
  own : ∀ b, Ft σ1 env1 b → Ft σ env b ∨ H b = none
  len : env1.length = env.length
  par : ∀ j, bor j = true → σ1[j]? = σ[j]? ∧ ∀ rv, env[j]? = some (some rv) → ∃ rv1, env1[j]? = some (some rv1)
  new : New bor H0 σ1 env1
section
variable {K : PySem.W.Frag} {mg : Str → Option Value} {bor : Nat → Bool} {H0 Hs H Hs1 H1 Hs2 H2 : Hp} {σ σ1 σ2 : L2.St} {env env1 env2 : En}
theorem AftS.refl (ok : EnvOk K mg Hs H σ env) (n : New bor H0 σ env) : AftS K mg bor H0 Hs H σ env Hs H σ env := ⟨T.refl, ok, fun _ f => .inl f, rfl, fun j _ => ⟨rfl, fun rv e => ⟨rv, e⟩⟩, n⟩
theorem AftS.trans (a : AftS K mg bor H0 Hs H σ env Hs1 H1 σ1 env1) (b : AftS K mg bor H0 Hs1 H1 σ1 env1 Hs2 H2 σ2 env2) : AftS K mg bor H0 Hs H σ env Hs2 H2 σ2 env2 :=
  ⟨a.t.trans b.t a.own, b.ok, fun x f => by
    rcases b.own x f with z | z
    · exact a.own x z
    · exact .inr (a.t.dom x z), b.len.trans a.len, fun j hj => ⟨(b.par j hj).1.trans (a.par j hj).1, fun rv e => by
    obtain ⟨r1, e1⟩ := (a.par j hj).2 rv e
    exact (b.par j hj).2 r1 e1⟩, b.new⟩
theorem New.go (n : New bor H0 σ env) (g : Go env env1) : New bor H0 σ env1 := fun i rv a hb e o s => by
  obtain ⟨r, e', o'⟩ := g.sub i rv e o
  exact n i r a hb e' o' s
theorem AftS.of (a : Aft K mg Hs H σ env Hs1 H1 env1) (n : New bor H0 σ env) : AftS K mg bor H0 Hs H σ env Hs1 H1 σ env1 :=
  ⟨a.t, a.ok, fun _ f => .inl (a.go.sub.ft f), a.go.len, fun j _ => ⟨rfl, fun rv e => a.go.stay j rv e⟩, n.go a.go⟩
end
/-- the ends of a statement -/
structure Lands (K : PySem.W.Frag) (mg : Str → Option Value) (bor : Nat → Bool) (H0 Hs H : Hp) (σ : L2.St) (env : En) (Dm : DE) (D : Ends) : Prop where
  nx : ∀ env1, Dm.nx env1 → ∀ σ1 Hs1 H1, AftS K mg bor H0 Hs H σ env Hs1 H1 σ1 env1 → D.nx σ1 H1
  bk : ∀ env1, Dm.bk env1 → ∀ σ1 Hs1 H1, AftS K mg bor H0 Hs H σ env Hs1 H1 σ1 env1 → D.bk σ1 H1
  ct : ∀ env1, Dm.ct env1 → ∀ σ1 Hs1 H1, AftS K mg bor H0 Hs H σ env Hs1 H1 σ1 env1 → D.ct σ1 H1
  rt : ∀ r env1, Dm.rt r env1 → ∀ v σ1 Hs1 H1, AftS K mg bor H0 Hs H σ env Hs1 H1 σ1 env1 → Own K mg Hs1 H1 v r → (r.own = true → ∀ a, v = .ref a → H0 a = none ∧ ¬ Ft σ1 env1 a) → D.rt v H1
def tS (K : PySem.W.Frag) (mg : Str → Option Value) (bor : Nat → Bool) (H0 : Hp) (w : En → DE → Prop) : TS := fun D σ H => ∃ Hs env Dm, EnvOk K mg Hs H σ env ∧ New bor H0 σ env ∧ (∀ b, H b = none → H0 b = none) ∧ w env Dm ∧ Lands K mg bor H0 Hs H σ env Dm D
section
variable {K : PySem.W.Frag} {mg : Str → Option Value} {bor : Nat → Bool} {H0 Hs H Hs1 H1 Hs2 H2 : Hp} {σ σ1 σ2 : L2.St} {env env1 env2 : En} {Dm : DE} {D : Ends}
theorem Lands.after (l : Lands K mg bor H0 Hs H σ env Dm D) (a : AftS K mg bor H0 Hs H σ env Hs1 H1 σ1 env1) : Lands K mg bor H0 Hs1 H1 σ1 env1 Dm D :=
  ⟨fun e k s h1 h2 b => l.nx e k s h1 h2 (a.trans b), fun e k s h1 h2 b => l.bk e k s h1 h2 (a.trans b), fun e k s h1 h2 b => l.ct e k s h1 h2 (a.trans b), fun r e k v s h1 h2 b => l.rt r e k v s h1 h2 (a.trans b)⟩
/-- a local gets a value -/
theorem store_aft {i : Nat} {v : V} {r : RV} (ok : EnvOk K mg Hs H σ env) (n : New bor H0 σ env) (dm : ∀ b, H b = none → H0 b = none) (hb : bor i = false) (a : Aft K mg Hs H σ env Hs1 H1 env1) (w : Own K mg Hs1 H1 v r) (fr : r.own = true → ∀ b, v = .ref b → H b = none) :
    AftS K mg bor H0 Hs H σ env Hs1 H1 (σ.set i (some v)) (env1.set i (some r)) := by
  have ok2 := a.ok.set (i := i) w fun o b e j hj r' e' o' s => (a.dm ok b ⟨j, r', e', o', s⟩) (fr o b e)
  have at' : ∀ (j : Nat) (rv : RV) (b : Addr), (env1.set i (some r))[j]? = some (some rv) → rv.own = true → (σ.set i (some v))[j]? = some (some (.ref b)) → (j = i ∧ H b = none) ∨ (j ≠ i ∧ env1[j]? = some (some rv) ∧ σ[j]? = some (some (.ref b))) := fun j rv b e o s => by
    by_cases hj : j = i
    · subst hj
      have hl : j < env1.length := by simpa using (List.getElem?_eq_some_iff.mp e).1
      have hl2 : j < σ.length := by simpa using (List.getElem?_eq_some_iff.mp s).1
      rw [List.getElem?_set_self hl] at e
      rw [List.getElem?_set_self hl2] at s
      cases e; cases s
      exact .inl ⟨rfl, fr o b rfl⟩
    · rw [List.getElem?_set_ne (Ne.symm hj)] at e s
      exact .inr ⟨hj, e, s⟩
  refine ⟨a.t, ok2, fun b f => ?_, by rw [List.length_set]; exact a.go.len, fun j hj => ?_, fun j rv b hj e o s => ?_⟩
  · obtain ⟨j, rv, e, o, s⟩ := f
    rcases at' j rv b e o s with ⟨_, h⟩ | ⟨_, e, s⟩
    · exact .inr h
    · exact .inl (a.go.sub.ft ⟨j, rv, e, o, s⟩)
  · have hne : i ≠ j := fun e => by rw [e, hj] at hb; cases hb
    exact ⟨List.getElem?_set_ne hne, fun rv e => by rw [List.getElem?_set_ne hne]; exact a.go.stay j rv e⟩
  · rcases at' j rv b e o s with ⟨_, h⟩ | ⟨_, e, s⟩
    · exact dm b h
    · obtain ⟨r0, e0, o0⟩ := a.go.sub j rv e o
      exact n j r0 b hj e0 o0 s
theorem stores_aft {l : List Nat} {vs : List V} {ds : List Mp.D} (n : New bor H0 σ env) (hb : l.all (fun i => !bor i) = true) (a : Aft K mg Hs H σ env Hs1 H1 env1) (w : Reps K mg Hs1 vs ds) (hl : vs.length = l.length) :
    AftS K mg bor H0 Hs H σ env Hs1 H1 (setAllV σ l vs) (setAll env1 l ds) := by
  have hb' : ∀ i ∈ l, bor i = false := fun i hi => by simpa using List.all_eq_true.mp hb i hi
  have at' : ∀ {l : List Nat} {vs : List V} {ds : List Mp.D} {σ : L2.St} {env1 : En} (j : Nat) (rv : RV) (b : Addr), vs.length = l.length → ds.length = l.length → (setAll env1 l ds)[j]? = some (some rv) → rv.own = true → (setAllV σ l vs)[j]? = some (some (.ref b)) → env1[j]? = some (some rv) ∧ σ[j]? = some (some (.ref b)) := by
    intro l
    induction l with
    | nil => intro vs ds σ env1 j rv b h1 h2 e o s; cases vs <;> cases ds <;> first | exact ⟨e, s⟩ | simp at h1 | simp at h2
    | cons i l ih =>
      intro vs ds σ env1 j rv b h1 h2 e o s
      cases vs with
      | nil => simp at h1
      | cons v vs =>
        cases ds with
        | nil => simp at h2
        | cons d ds =>
          obtain ⟨e', s'⟩ := ih (vs := vs) (ds := ds) (σ := σ.set i (some v)) (env1 := env1.set i (some (.d d))) j rv b (by simpa using h1) (by simpa using h2) e o s
          by_cases hj : j = i
          · subst hj
            have hl : j < env1.length := by simpa using (List.getElem?_eq_some_iff.mp e').1
            rw [List.getElem?_set_self hl] at e'
            cases e'; cases o
          · rw [List.getElem?_set_ne (Ne.symm hj)] at e' s'
            exact ⟨e', s'⟩
  have hld : ds.length = l.length := by rw [← w.length, hl]
  refine ⟨a.t, a.ok.setAll w, fun b f => ?_, by rw [setAll_go.len]; exact a.go.len, fun j hj => ?_, fun j rv b hj e o s => ?_⟩
  · obtain ⟨j, rv, e, o, s⟩ := f
    obtain ⟨e, s⟩ := at' j rv b hl hld e o s
    exact .inl (a.go.sub.ft ⟨j, rv, e, o, s⟩)
  · have hne : j ∉ l := fun e => by rw [hb' j e] at hj; cases hj
    exact ⟨setAllV_out hne, fun rv e => by rw [setAll_out hne]; exact a.go.stay j rv e⟩
  · obtain ⟨e, s⟩ := at' j rv b hl hld e o s
    obtain ⟨r0, e0, o0⟩ := a.go.sub j rv e o
    exact n j r0 b hj e0 o0 s
theorem take_ok {v : V} {av : AV} {Kt : RV → En → Prop} (ok : EnvOk K mg Hs H σ env) (a : Aft K mg Hs H σ env Hs1 H1 env1) (h : AvOk1 K mg H Hs1 H1 σ env1 v av) (f : take av env1 Kt) :
    GhP H1 fun H2 => ∃ r env2 Hs2, Kt r env2 ∧ Aft K mg Hs H σ env Hs2 H2 env2 ∧ Own K mg Hs2 H2 v r ∧ (r.own = true → ∀ b, v = .ref b → H b = none) := by
  cases av with
  | slot j =>
    have f' : frz (.slot j) env1 fun d e => Kt (.d d) e := f
    refine (frz_ok a.ok (a.dm ok) h f').imp fun H2 ⟨d, env2, Hs2, k, t, ok2, g, r, _⟩ => ?_
    exact ⟨.d d, env2, Hs2, k, a.step t (fun _ q => q) ok2 g, r, fun z => nomatch z⟩
  | rv r => exact .inl ⟨r, env1, Hs1, f, a, h.1, h.2⟩
/-- a read of an expression, in a statement -/
theorem useS {w : WV} {Kv : AV → En → Prop} {Q : VK} (ok : EnvOk K mg Hs H σ env) (hw : w env Kv)
    (h : ∀ av env1 v Hs1 H1, Kv av env1 → Aft K mg Hs H σ env Hs1 H1 env1 → AvOk1 K mg H Hs1 H1 σ env1 v av → Q v H1) : tV K mg w σ H Q :=
  ⟨Hs, env, Kv, ok, hw, fun av env1 k v Hs1 H1 a r => h av env1 v Hs1 H1 k a r⟩

theorem useG {w : WV} {Kv : AV → En → Prop} {Q : VK} (ok : EnvOk K mg Hs H σ env) (hw : w env Kv)
    (h : ∀ av env1 v Hs1 H1, Kv av env1 → Aft K mg Hs H σ env Hs1 H1 env1 → AvOk1 K mg H Hs1 H1 σ env1 v av → GhP H1 (Q v)) : gh (tV K mg w) σ H Q :=
  ⟨Hs, env, Kv, ok, hw, fun av env1 k v Hs1 H1 a r => h av env1 v Hs1 H1 k a r⟩
theorem r_expr {e : SE} (h : tS K mg bor H0 (denS nx0 bor (.expr e)) D σ H) : tDrop (tV K mg (den2 nx0 e).v) D σ H := by
  obtain ⟨Hs, env, Dm, ok, n, dm, w, l⟩ := h
  exact useS ok w fun av env1 v Hs1 H1 k a _ => l.nx env1 k _ _ _ (AftS.of a n)
theorem r_assign {i : Nat} {e : SE} (h : tS K mg bor H0 (denS nx0 bor (.assign i e)) D σ H) : tAsg (gh (tV K mg (den2 nx0 e).v)) (gName i) D σ H := by
  obtain ⟨Hs, env, Dm, ok, n, dm, w, l⟩ := h
  refine useG ok w fun av env1 v Hs1 H1 k a r => ?_
  refine (take_ok ok a r k).imp fun H2 ⟨r2, env2, Hs2, ⟨hb, k⟩, a2, w2, fr⟩ => ?_
  exact l.nx _ k _ _ _ (store_aft ok n dm hb a2 w2 fr)
def onlyRv (Kv : AV → En → Prop) : AV → En → Prop := fun av env => match av with
  | .rv r => Kv (.rv r) env
  | .slot _ => False
theorem r_assignR {i : Nat} {e : SE} (hv : ∀ env Kv, (den2 nx0 e).v env Kv → (den2 nx0 e).v env (onlyRv Kv)) (h : tS K mg bor H0 (denS nx0 bor (.assign i e)) D σ H) : tAsg (tV K mg (den2 nx0 e).v) (gName i) D σ H := by
  obtain ⟨Hs, env, Dm, ok, n, dm, w, l⟩ := h
  refine useS ok (hv _ _ w) fun av env1 v Hs1 H1 k a r => ?_
  cases av with
  | slot _ => exact k.elim
  | rv r2 =>
    obtain ⟨hb, k⟩ := k
    exact l.nx _ k _ _ _ (store_aft ok n dm hb a r.1 r.2)
theorem r_assignT {is : List Nat} {e : SE} (h : tS K mg bor H0 (denS nx0 bor (.assignT is e)) D σ H) : tAsg (gh (tV K mg (den2 nx0 e).v)) (gTup K is.length (gNames is)) D σ H := by
  obtain ⟨Hs, env, Dm, ok, n, dm, w, l⟩ := h
  refine useD ok w fun d env1 v Hs1 H1 k a r => ?_
  obtain ⟨xs, rfl, hl, hb, k⟩ := k
  cases r with
  | tup q rs =>
    rename_i b vs
    exact ⟨b, vs, rfl, SqT_same a.ok.sub q, by rw [rs.length, hl], gNames_run (by rw [rs.length, hl]) (l.nx _ k _ _ _ (stores_aft n hb a rs (by rw [rs.length, hl])))⟩
theorem r_ret {e : SE} (h : tS K mg bor H0 (denS nx0 bor (.ret e)) D σ H) : tRet (gh (tV K mg (den2 nx0 e).v)) D σ H := by
  obtain ⟨Hs, env, Dm, ok, n, dm, w, l⟩ := h
  refine useG ok w fun av env1 v Hs1 H1 k a r => ?_
  cases av with
  | rv r2 => refine .inl ?_; exact l.rt _ _ k v _ _ _ (AftS.of a n) r.1 fun o b e => ⟨dm b (r.2 o b e), fun f => a.dm ok b f (r.2 o b e)⟩
  | slot i =>
    obtain ⟨rv, e1, k⟩ := k
    by_cases hb : bor i = false
    · rw [if_pos hb] at k
      obtain ⟨s, _⟩ := r
      obtain ⟨v', s', w'⟩ := a.ok.at_ i rv e1
      rw [s] at s'; cases s'
      have out : ∀ (j : Nat) (r : RV), (env1.set i none)[j]? = some (some r) → j ≠ i ∧ env1[j]? = some (some r) := fun j r e => by
        by_cases hj : j = i
        · subst hj
          have hl : j < env1.length := by simpa using (List.getElem?_eq_some_iff.mp e).1
          rw [List.getElem?_set_self hl] at e
          cases e
        · rw [List.getElem?_set_ne (Ne.symm hj)] at e; exact ⟨hj, e⟩
      have ok2 : EnvOk K mg Hs1 H1 σ (env1.set i none) := ⟨a.ok.sub, by rw [List.length_set]; exact a.ok.len, fun j r e => a.ok.at_ j r (out j r e).2, fun j k r r' b hjk q1 q2 => a.ok.sep j k r r' b hjk (out j r q1).2 (out k r' q2).2⟩
      have aS := AftS.of a n
      refine .inl ?_
      refine l.rt _ _ k v _ _ _ ⟨aS.t, ok2, fun b f => ?_, by rw [List.length_set]; exact aS.len, fun j hj => ⟨rfl, fun r e => ?_⟩, fun j r b hj e o s => aS.new j r b hj (out j r e).2 o s⟩ w' fun o b eb => ⟨?_, fun f => ?_⟩
      · obtain ⟨j, r, e, o, s⟩ := f
        exact aS.own b ⟨j, r, (out j r e).2, o, s⟩
      · have hne : i ≠ j := fun q => by rw [← q, hb] at hj; cases hj
        rw [List.getElem?_set_ne hne]
        exact (aS.par j hj).2 r e
      · exact aS.new i rv b hb e1 o (by rw [s, eb])
      · obtain ⟨j, r, e, o', s'⟩ := f
        obtain ⟨hj, e⟩ := out j r e
        exact a.ok.sep j i r rv b hj e e1 o' o s' (by rw [s, eb])
    · rw [if_neg hb] at k
      have f' : frz (.slot i) env1 fun d e => Dm.rt (.d d) e := ⟨rv, e1, k⟩
      refine (frz_ok a.ok (a.dm ok) r f').imp fun H2 ⟨d, env2, Hs2, k, t, ok2, g, rp, _⟩ => ?_
      exact l.rt _ _ k v _ _ _ (AftS.of (a.step t (fun _ q => q) ok2 g) n) rp fun z => nomatch z
theorem r_retN (h : tS K mg bor H0 (denS nx0 bor .retN) D σ H) : tRetN D σ H := by
  obtain ⟨Hs, env, Dm, ok, n, dm, w, l⟩ := h
  exact l.rt _ _ w .non _ _ _ (AftS.refl ok n) .non fun z => nomatch z
theorem r_nx {w : En → DE → Prop} (hw : ∀ env Dm, w env Dm → Dm.nx env) (h : tS K mg bor H0 w D σ H) : tNext D σ H := by
  obtain ⟨Hs, env, Dm, ok, n, dm, w, l⟩ := h
  exact l.nx _ (hw _ _ w) _ _ _ (AftS.refl ok n)
theorem r_brk (h : tS K mg bor H0 (denS nx0 bor .brk) D σ H) : tBreak D σ H := by
  obtain ⟨Hs, env, Dm, ok, n, dm, w, l⟩ := h
  exact l.bk _ w _ _ _ (AftS.refl ok n)
theorem r_cont (h : tS K mg bor H0 (denS nx0 bor .cont) D σ H) : tCont D σ H := by
  obtain ⟨Hs, env, Dm, ok, n, dm, w, l⟩ := h
  exact l.ct _ w _ _ _ (AftS.refl ok n)
theorem r_ifs {t : SE} {p q : SSs} (h : tS K mg bor H0 (denS nx0 bor (.ifs t p q)) D σ H) : tIfS (tT K mg (den2 nx0 t).t) (tS K mg bor H0 (denSs nx0 bor p)) (tS K mg bor H0 (denSs nx0 bor q)) D σ H := by
  obtain ⟨Hs, env, Dm, ok, n, dm, w, l⟩ := h
  refine ⟨Hs, env, _, ok, w, fun b env1 k Hs1 H1 a => ?_⟩
  have aS := AftS.of (H0 := H0) (bor := bor) a n
  cases b with
  | true => exact ⟨Hs1, env1, Dm, a.ok, aS.new, fun x q => dm x (a.t.dom x q), k, l.after aS⟩
  | false => exact ⟨Hs1, env1, Dm, a.ok, aS.new, fun x q => dm x (a.t.dom x q), k, l.after aS⟩
theorem r_seq {s : SS} {r : SSs} (h : tS K mg bor H0 (denSs nx0 bor (.cons s r)) D σ H) : tSeq (tS K mg bor H0 (denS nx0 bor s)) (tS K mg bor H0 (denSs nx0 bor r)) D σ H := by
  obtain ⟨Hs, env, Dm, ok, n, dm, w, l⟩ := h
  exact ⟨Hs, env, _, ok, n, dm, w, ⟨fun env1 k σ1 Hs1 H1 a => ⟨Hs1, env1, Dm, a.ok, a.new, fun x q => dm x (a.t.dom x q), k, l.after a⟩, l.bk, l.ct, l.rt⟩⟩
/-- a for loop -/
theorem r_for {tg : Tg} {src : Src} {body : SSs} (h : tS K mg bor H0 (denS nx0 bor (.for_ tg src body)) D σ H) :
    tFor (tSrc K mg (denSrc nx0 src)) (tG K mg tg) (tS K mg bor H0 (denSs nx0 bor body)) D σ H := by
  obtain ⟨Hs, env, Dm, ok, n, dm, w, l⟩ := h
  refine ⟨Hs, env, _, ok, w, fun xs env1 k J Hs1 H1 a wk => ?_⟩
  obtain ⟨hb, k⟩ := k
  have aS := AftS.of (H0 := H0) (bor := bor) a n
  have hb' : ∀ i ∈ tg.slots, bor i = false := fun i hi => by simpa using List.all_eq_true.mp hb i hi
  let W : Nat → L2.St → Hp → Prop := fun i σ2 H2 => ∃ Hs2 env2, AftS K mg bor H0 Hs1 H1 σ env1 Hs2 H2 σ2 env2 ∧
    forLoop (fun x e D' => ∃ e1, bindT tg x e = some e1 ∧ denSs nx0 bor body e1 D') Dm (xs.drop i) env2
  refine ⟨fun i m σ2 H2 => m = xs.length - i ∧ i ≤ xs.length ∧ W i σ2 H2, ⟨_, rfl, Nat.zero_le _, Hs1, env1, AftS.refl a.ok aS.new, k⟩, ?_⟩
  rintro i m σ2 H2 ⟨rfl, hi, Hs2, env2, a2, k2⟩
  have wk2 := wk Hs2 H2 a2.t.same a2.ok.sub i
  cases hx : xs[i]? with
  | none =>
    refine .inl ⟨wk2.2 hx, ?_⟩
    rw [List.drop_eq_nil_of_le (List.getElem?_eq_none_iff.mp hx)] at k2
    exact l.nx _ k2 _ _ _ (aS.trans a2)
  | some d =>
    obtain ⟨go, yl⟩ := wk2.1 d hx
    have hlt : i < xs.length := (List.getElem?_eq_some_iff.mp hx).1
    rw [drop_cons hx] at k2
    refine .inr ⟨go, W (i + 1), fun σ' H' q => ⟨xs.length - (i + 1), by omega, rfl, hlt, q⟩, fun x H3 y => ?_⟩
    obtain ⟨Hs3, q1, q2, q3, q4, rx⟩ := yl x H3 y
    have t3 : T (fun _ => False) Hs2 H2 Hs3 H3 := T.new q1 q2 q4
    have ok3 := a2.ok.keep t3 q3 fun _ f => f.elim
    obtain ⟨e1, be, kb⟩ := k2
    obtain ⟨g, gb⟩ := bindT_go be
    refine ⟨Hs3, env2, d, e1, ok3, rx, be, fun σ3 ok4 hσ => ?_⟩
    have a3 : AftS K mg bor H0 Hs2 H2 σ2 env2 Hs3 H3 σ3 e1 := by
      have at' : ∀ (j : Nat) (rv : RV) (b : Addr), e1[j]? = some (some rv) → rv.own = true → σ3[j]? = some (some (.ref b)) → ∃ r, env2[j]? = some (some r) ∧ r.own = true ∧ σ2[j]? = some (some (.ref b)) := fun j rv b e o s => by
        obtain ⟨r, e', o'⟩ := g.sub j rv e o
        by_cases hj : j ∈ tg.slots
        · -- a name of the target holds nothing of its own
          exfalso
          have key : ∀ {tg : Tg} {d : Mp.D} {env2 e1 : En} {j : Nat} {rv : RV}, bindT tg d env2 = some e1 → j ∈ tg.slots → e1[j]? = some (some rv) → rv.own = true → False := by
            intro tg d env2 e1 j rv be hj e o
            cases tg with
            | name i =>
              cases be
              have hj : j = i := by simpa [Tg.slots] using hj
              subst hj
              have hl : j < env2.length := by simpa using (List.getElem?_eq_some_iff.mp e).1
              rw [List.getElem?_set_self hl] at e
              cases e; cases o
            | tup is =>
              cases d with
              | tup ys =>
                have be : (if ys.length = is.length then some (setAll env2 is ys) else none) = some e1 := be
                by_cases hl : ys.length = is.length
                · rw [if_pos hl] at be; cases be
                  have all : ∀ (is : List Nat) (ys : List Mp.D) (env : En), ys.length = is.length → j ∈ is → (setAll env is ys)[j]? = some (some rv) → False := by
                    intro is
                    induction is with
                    | nil => intro ys env _ h; simp at h
                    | cons i is ih =>
                      intro ys env hl h e
                      cases ys with
                      | nil => simp at hl
                      | cons y ys =>
                        by_cases hm : j ∈ is
                        · exact ih ys (env.set i (some (.d y))) (by simpa using hl) hm e
                        · have hj : j = i := by simpa [hm] using h
                          subst hj
                          have e : (setAll (env.set j (some (.d y))) is ys)[j]? = some (some rv) := e
                          rw [setAll_out hm] at e
                          have hl : j < env.length := by simpa using (List.getElem?_eq_some_iff.mp e).1
                          rw [List.getElem?_set_self hl] at e
                          cases e; cases o
                  exact all is ys env2 hl hj e
                · rw [if_neg hl] at be; cases be
              | _ => cases be
          exact key be hj e o
        · rw [hσ j hj] at s; exact ⟨r, e', o', s⟩
      refine ⟨t3.mono fun _ f => f.elim, ok4, fun b f => ?_, g.len, fun j hj => ⟨hσ j fun z => (by rw [hb' j z] at hj; cases hj), fun rv e => g.stay j rv e⟩, fun j rv b hj e o s => ?_⟩
      · obtain ⟨j, rv, e, o, s⟩ := f
        obtain ⟨r, e', o', s'⟩ := at' j rv b e o s
        exact .inl ⟨j, r, e', o', s'⟩
      · obtain ⟨r, e', o', s'⟩ := at' j rv b e o s
        exact a2.new j r b hj e' o' s'
    have a13 := a2.trans a3
    refine ⟨Hs3, e1, _, ok4, a13.new, fun b q => dm b (a.t.dom b (a13.t.dom b q)), kb, ⟨fun env4 k σ4 Hs4 H4 a4 => ⟨Hs4, env4, a13.trans a4, k⟩, fun env4 k σ4 Hs4 H4 a4 => l.nx env4 k _ _ _ (aS.trans (a13.trans a4)), fun env4 k σ4 Hs4 H4 a4 => ⟨Hs4, env4, a13.trans a4, k⟩, fun r env4 k v σ4 Hs4 H4 a4 w4 fr => l.rt r env4 k v _ _ _ (aS.trans (a13.trans a4)) w4 fr⟩⟩
theorem r_while {t : SE} {body : SSs} (h : tS K mg bor H0 (denS nx0 bor (.while_ t body)) D σ H) : tWhile (tT K mg (den2 nx0 t).t) (tS K mg bor H0 (denSs nx0 bor body)) D σ H := by
  obtain ⟨Hs, env, Dm, ok, n, dm, ⟨W, ⟨m0, w0⟩, turn⟩, l⟩ := h
  refine ⟨fun m σ2 H2 => ∃ Hs2 env2, AftS K mg bor H0 Hs H σ env Hs2 H2 σ2 env2 ∧ W m env2, ⟨m0, Hs, env, AftS.refl ok n, w0⟩, ?_⟩
  rintro m σ2 H2 ⟨Hs2, env2, a, w⟩
  refine ⟨Hs2, env2, _, a.ok, turn m env2 w, fun b env3 k Hs3 H3 a3 => ?_⟩
  have aS := a.trans (AftS.of a3 a.new)
  cases b with
  | false => exact l.nx _ k _ _ _ aS
  | true =>
    refine ⟨fun σ' H' => ∃ m', m' < m ∧ ∃ Hs2 env2, AftS K mg bor H0 Hs H σ env Hs2 H' σ' env2 ∧ W m' env2, fun _ _ q => q, Hs3, env3, _, a3.ok, aS.new, fun x q => dm x (aS.t.dom x q), k, ⟨fun env4 k σ4 Hs4 H4 a4 => ?_, fun env4 k σ4 Hs4 H4 a4 => l.nx env4 k _ _ _ (aS.trans a4), fun env4 k σ4 Hs4 H4 a4 => ?_, fun r env4 k v σ4 Hs4 H4 a4 w4 fr => l.rt r env4 k v _ _ _ (aS.trans a4) w4 fr⟩⟩
    · obtain ⟨m', hm, w'⟩ := k
      exact ⟨m', hm, Hs4, env4, aS.trans a4, w'⟩
    · obtain ⟨m', hm, w'⟩ := k
      exact ⟨m', hm, Hs4, env4, aS.trans a4, w'⟩
end
end Mp
namespace Mp
open PySem PySem.Spec PyProof.Rows L2
/-! ### several targets at once: which road -/
def swp (env : PySem.Env) (ts vs : List Expr) : Option (Option (List Str)) :=
  if (!(ts.length == 2 || ts.length == 3) || vs.length != ts.length || env.blockKind != .function) = true then some none
  else if (vs.any fun | .Starred .. => true | _ => false) = true then some none
  else
    let line := (ts.head?.map (·.pos.line)).getD 0
    let names := ts.filterMap fun
      | .Name id pos => if env.kindOf id == some .local && pos.line == line then some id else none
      | _ => none
    if (names.length != ts.length || names.eraseDups.length != names.length) = true then some none
    else if (vs.all (foldedForSure 8)) = true then some none
    else if (vs.all (constantsAlone 8)) = true then none
    else some (some names)
theorem swp_ok {env : PySem.Env} {ts vs : List Expr} {k k2 : Nat} {p p2 : Pos} {r : Option (List Str)} (h : swp env ts vs = some r) : swappedStores [.Tuple ts k p] (.Tuple vs k2 p2) env = pure r := by
  unfold swp at h
  unfold swappedStores
  by_cases c1 : (!(ts.length == 2 || ts.length == 3) || vs.length != ts.length || env.blockKind != .function) = true
  · rw [if_pos c1] at h
    cases h
    simp only [c1]
    rfl
  · rw [if_neg c1] at h
    dsimp only at h
    simp only [c1]
    rw [if_neg Bool.false_ne_true]
    by_cases c2 : (vs.any fun | .Starred .. => true | _ => false) = true
    · have h := (if_pos c2).symm.trans h; cases h; exact Eq.trans (if_pos c2) rfl
    · have h := (if_neg c2).symm.trans h
      refine Eq.trans (if_neg c2) ?_
      by_cases c3 : ((ts.filterMap fun
          | .Name id pos => if env.kindOf id == some .local && pos.line == (ts.head?.map (·.pos.line)).getD 0 then some id else none
          | _ => none).length != ts.length || (ts.filterMap fun
          | .Name id pos => if env.kindOf id == some .local && pos.line == (ts.head?.map (·.pos.line)).getD 0 then some id else none
          | _ => none).eraseDups.length != (ts.filterMap fun
          | .Name id pos => if env.kindOf id == some .local && pos.line == (ts.head?.map (·.pos.line)).getD 0 then some id else none
          | _ => none).length) = true
      · have h := (if_pos c3).symm.trans h; cases h; exact Eq.trans (if_pos c3) rfl
      · have h := (if_neg c3).symm.trans h
        refine Eq.trans (if_neg c3) ?_
        by_cases c4 : (vs.all (foldedForSure 8)) = true
        · have h := (if_pos c4).symm.trans h; cases h; exact Eq.trans (if_pos c4) rfl
        · have h := (if_neg c4).symm.trans h
          refine Eq.trans (if_neg c4) ?_
          by_cases c5 : (vs.all (constantsAlone 8)) = true
          · have h := (if_pos c5).symm.trans h; cases h
          · have h := (if_neg c5).symm.trans h; cases h; exact Eq.trans (if_neg c5) rfl
theorem AvsOk.aft2 {K : PySem.W.Frag} {mg : Str → Option Value} {Hs H H0 Hs2 H2 : Hp} {σ : L2.St} {env env2 : En} (ok : EnvOk K mg Hs H σ env) (a : Aft K mg Hs H σ env Hs2 H2 env2) (dm : ∀ b, Ft σ env b → H0 b ≠ none) : ∀ {vs : List V} {avs : List AV}, AvsOk K mg Hs H σ env H0 vs avs → AvsOk K mg Hs2 H2 σ env2 H0 vs avs
  | _, _, .nil => .nil
  | _, _, .cons h q sp => .cons (a.av h ok dm) (q.aft2 ok a dm) sp
section
variable {K : PySem.W.Frag} {mg : Str → Option Value} {bor : Nat → Bool} {H0 Hs H Hs1 H1 Hs2 H2 : Hp} {σ σ1 σ2 : L2.St} {env env1 env2 : En} {Dm : DE} {D : Ends}
theorem r_par2 {i j : Nat} {es : SEs} {sw : Bool} (h : tS K mg bor H0 (denS nx0 bor (.par sw [i, j] es)) D σ H) : tPar i j (tK K mg (denDs nx0 es)) D σ H := by
  obtain ⟨Hs, env, Dm, ok, n, dm, w, l⟩ := h
  refine ⟨Hs, env, _, ok, w, fun ds env1 k vs Hs1 H1 a rs => ?_⟩
  obtain ⟨hl, hb, k⟩ := k
  have hv : vs.length = [i, j].length := by rw [rs.length, hl]
  match vs, hv with
  | [v, w], _ => exact ⟨v, w, rfl, l.nx _ k _ _ _ (stores_aft n hb a rs rfl)⟩
theorem r_par3 {i j m : Nat} {es : SEs} {sw : Bool} (h : tS K mg bor H0 (denS nx0 bor (.par sw [i, j, m] es)) D σ H) : tPar3 i j m (tK K mg (denDs nx0 es)) D σ H := by
  obtain ⟨Hs, env, Dm, ok, n, dm, w, l⟩ := h
  refine ⟨Hs, env, _, ok, w, fun ds env1 k vs Hs1 H1 a rs => ?_⟩
  obtain ⟨hl, hb, k⟩ := k
  have hv : vs.length = [i, j, m].length := by rw [rs.length, hl]
  match vs, hv with
  | [u, v, w], _ => exact ⟨u, v, w, rfl, l.nx _ k _ _ _ (stores_aft n hb a rs rfl)⟩
theorem r_parN {is : List Nat} {es : SEs} {sw : Bool} (hz : is.length ≤ sizeLine) (h : tS K mg bor H0 (denS nx0 bor (.par sw is es)) D σ H) : tAsg (tTup (tK K mg (denDs nx0 es))) (gTup K is.length (gNames is)) D σ H := by
  obtain ⟨Hs, env, Dm, ok, n, dm, w, l⟩ := h
  refine ⟨Hs, env, _, ok, w, fun ds env1 k vs Hs1 H1 a rs => ?_⟩
  obtain ⟨hl, hb, k⟩ := k
  have hv : vs.length = is.length := by rw [rs.length, hl]
  refine ⟨by rw [hv]; exact hz, fun p hp => ⟨p, vs, rfl, SqT.of upd_same, hv, ?_⟩⟩
  have a2 := fresh_sh (o := .tup vs) a.ok hp
  exact gNames_run hv (l.nx _ k _ _ _ (stores_aft n hb (a.trans a2) (rs.mono a2.t.same) hv))
theorem AftS.store {i : Nat} {v : V} {r : RV} (a : AftS K mg bor H0 Hs H σ env Hs1 H1 σ1 env1) (hb : bor i = false) (w : Own K mg Hs1 H1 v r) (fr : r.own = true → ∀ b, v = .ref b → H b = none ∧ H0 b = none ∧ ¬ Ft σ1 env1 b) :
    AftS K mg bor H0 Hs H σ env Hs1 H1 (σ1.set i (some v)) (env1.set i (some r)) ∧ ∀ b, Ft (σ1.set i (some v)) (env1.set i (some r)) b → (r.own = true ∧ v = .ref b) ∨ Ft σ1 env1 b := by
  have ok2 := a.ok.set (i := i) w fun o b e j hj r' e' o' s => (fr o b e).2.2 ⟨j, r', e', o', s⟩
  have at' : ∀ (j : Nat) (rv : RV) (b : Addr), (env1.set i (some r))[j]? = some (some rv) → rv.own = true → (σ1.set i (some v))[j]? = some (some (.ref b)) → (j = i ∧ r.own = true ∧ v = .ref b) ∨ (j ≠ i ∧ env1[j]? = some (some rv) ∧ σ1[j]? = some (some (.ref b))) := fun j rv b e o s => by
    by_cases hj : j = i
    · subst hj
      have hl : j < env1.length := by simpa using (List.getElem?_eq_some_iff.mp e).1
      have hl2 : j < σ1.length := by simpa using (List.getElem?_eq_some_iff.mp s).1
      rw [List.getElem?_set_self hl] at e
      rw [List.getElem?_set_self hl2] at s
      cases e; cases s
      exact .inl ⟨rfl, o, rfl⟩
    · rw [List.getElem?_set_ne (Ne.symm hj)] at e s
      exact .inr ⟨hj, e, s⟩
  refine ⟨⟨a.t, ok2, fun b f => ?_, by rw [List.length_set]; exact a.len, fun j hj => ?_, fun j rv b hj e o s => ?_⟩, fun b f => ?_⟩
  · obtain ⟨j, rv, e, o, s⟩ := f
    rcases at' j rv b e o s with ⟨_, o', ev⟩ | ⟨_, e, s⟩
    · exact .inr (fr o' b ev).1
    · exact a.own b ⟨j, rv, e, o, s⟩
  · have hne : i ≠ j := fun e => by rw [e, hj] at hb; cases hb
    exact ⟨by rw [List.getElem?_set_ne hne]; exact (a.par j hj).1, fun rv e => by rw [List.getElem?_set_ne hne]; exact (a.par j hj).2 rv e⟩
  · rcases at' j rv b e o s with ⟨_, o', ev⟩ | ⟨_, e, s⟩
    · exact (fr o' b ev).2.1
    · exact a.new j rv b hj e o s
  · obtain ⟨j, rv, e, o, s⟩ := f
    rcases at' j rv b e o s with ⟨_, o', ev⟩ | ⟨_, e, s⟩
    · exact .inl ⟨o', ev⟩
    · exact .inr ⟨j, rv, e, o, s⟩
theorem AftS.stores : ∀ {l : List Nat} {vs : List V} {rs : List RV} {σ1 : L2.St} {env1 : En}, AftS K mg bor H0 Hs H σ env Hs1 H1 σ1 env1 → (∀ i ∈ l, bor i = false) → vs.length = l.length → rs.length = l.length →
    (∀ (k : Nat) v r, vs[k]? = some v → rs[k]? = some r → Own K mg Hs1 H1 v r ∧ (r.own = true → ∀ b, v = .ref b → H b = none ∧ H0 b = none ∧ ¬ Ft σ1 env1 b)) →
    (∀ (k k' : Nat) r r' (b : Addr), k < k' → rs[k]? = some r → rs[k']? = some r' → r.own = true → r'.own = true → vs[k]? = some (.ref b) → vs[k']? = some (.ref b) → False) →
    AftS K mg bor H0 Hs H σ env Hs1 H1 (setAllV σ1 l vs) (setAllR env1 l rs)
  | [], [], [], _, _, a, _, _, _, _, _ => a
  | i :: l, v :: vs, r :: rs, σ1, env1, a, hb, h1, h2, h3, h4 => by
    obtain ⟨w, fr⟩ := h3 0 v r rfl rfl
    obtain ⟨a2, hF⟩ := a.store (i := i) (hb i List.mem_cons_self) w fr
    refine AftS.stores (l := l) (vs := vs) (rs := rs) a2 (fun j hj => hb j (List.mem_cons_of_mem _ hj)) (by simpa using h1) (by simpa using h2) (fun k v' r' e1 e2 => ?_) fun k k' q q' b hk e1 e2 o1 o2 s1 s2 => h4 (k + 1) (k' + 1) q q' b (by omega) (by simpa using e1) (by simpa using e2) o1 o2 (by simpa using s1) (by simpa using s2)
    obtain ⟨w', fr'⟩ := h3 (k + 1) v' r' (by simpa using e1) (by simpa using e2)
    refine ⟨w', fun o b eb => ⟨(fr' o b eb).1, (fr' o b eb).2.1, fun f => ?_⟩⟩
    rcases hF b f with ⟨o0, ev⟩ | f
    · exact h4 0 (k + 1) r r' b (by omega) rfl (by simpa using e2) o0 o (by simp [ev]) (by rw [← eb]; simpa using e1)
    · exact (fr' o b eb).2.2 f
  | [], _ :: _, _, _, _, _, _, h, _, _, _ => by simp at h
  | [], [], _ :: _, _, _, _, _, _, h, _, _ => by simp at h
  | _ :: _, [], _, _, _, _, _, h, _, _, _ => by simp at h
  | _ :: _, _ :: _, [], _, _, _, _, _, h, _, _ => by simp at h
theorem avs_at {rs : List RV} : ∀ {vs : List V}, AvsOk K mg Hs1 H1 σ env1 H vs (rs.map AV.rv) → ∀ (k : Nat) v r, vs[k]? = some v → rs[k]? = some r → Own K mg Hs1 H1 v r ∧ (r.own = true → ∀ b, v = .ref b → H b = none) := fun {vs} q k v r e1 e2 => by
  obtain ⟨v', e', h⟩ := q.at1 (i := k) (av := AV.rv r) (by rw [List.getElem?_map, e2]; rfl)
  rw [e1] at e'; cases e'
  exact h
theorem parO_aft {l : List Nat} {vs : List V} {rs : List RV} (ok : EnvOk K mg Hs H σ env) (n : New bor H0 σ env) (dm : ∀ b, H b = none → H0 b = none) (hb : l.all (fun i => !bor i) = true) (a : Aft K mg Hs H σ env Hs1 H1 env1) (q : AvsOk K mg Hs1 H1 σ env1 H vs (rs.map AV.rv)) (hl : rs.length = l.length) :
    AftS K mg bor H0 Hs H σ env Hs1 H1 (setAllV σ l vs) (setAllR env1 l rs) := by
  have hv : vs.length = rs.length := by rw [q.length, List.length_map]
  refine (AftS.of a n).stores (fun i hi => by simpa using List.all_eq_true.mp hb i hi) (hv.trans hl) hl (fun k v r e1 e2 => ?_) fun k k' r r' b hk e1 e2 o1 o2 s1 s2 => ?_
  · obtain ⟨w, fr⟩ := avs_at q k v r e1 e2
    exact ⟨w, fun o b eb => ⟨fr o b eb, dm b (fr o b eb), fun f => a.dm ok b f (fr o b eb)⟩⟩
  · exact q.tsep hk (by rw [List.getElem?_map, e1]; rfl) (by rw [List.getElem?_map, e2]; rfl) o1 o2 s1 s2
theorem r_parO2 {i j : Nat} {es : SEs} {sw : Bool} (h : tS K mg bor H0 (denS nx0 bor (.parO sw [i, j] es)) D σ H) : tPar i j (tL K mg (denA nx0 es)) D σ H := by
  obtain ⟨Hs, env, Dm, ok, n, dm, w, l⟩ := h
  refine ⟨Hs, env, _, ok, w, fun avs env1 k vs Hs1 H1 a q => ?_⟩
  obtain ⟨rs, rfl, hl, hb, k⟩ := k
  have hv : vs.length = [i, j].length := by rw [q.length, List.length_map, hl]
  have aft := parO_aft ok n dm hb a q hl
  match vs, hv, aft with
  | [v, w], _, aft => exact ⟨v, w, rfl, l.nx _ k _ _ _ aft⟩
theorem r_parO3 {i j m : Nat} {es : SEs} {sw : Bool} (h : tS K mg bor H0 (denS nx0 bor (.parO sw [i, j, m] es)) D σ H) : tPar3 i j m (tL K mg (denA nx0 es)) D σ H := by
  obtain ⟨Hs, env, Dm, ok, n, dm, w, l⟩ := h
  refine ⟨Hs, env, _, ok, w, fun avs env1 k vs Hs1 H1 a q => ?_⟩
  obtain ⟨rs, rfl, hl, hb, k⟩ := k
  have hv : vs.length = [i, j, m].length := by rw [q.length, List.length_map, hl]
  have aft := parO_aft ok n dm hb a q hl
  match vs, hv, aft with
  | [u, v, w], _, aft => exact ⟨u, v, w, rfl, l.nx _ k _ _ _ aft⟩
theorem r_parON {is : List Nat} {es : SEs} {sw : Bool} (hz : is.length ≤ sizeLine) (h : tS K mg bor H0 (denS nx0 bor (.parO sw is es)) D σ H) : tAsg (tTup (tL K mg (denA nx0 es))) (gTup K is.length (gNames is)) D σ H := by
  obtain ⟨Hs, env, Dm, ok, n, dm, w, l⟩ := h
  refine ⟨Hs, env, _, ok, w, fun avs env1 k vs Hs1 H1 a q => ?_⟩
  obtain ⟨rs, rfl, hl, hb, k⟩ := k
  have hv : vs.length = is.length := by rw [q.length, List.length_map, hl]
  refine ⟨by rw [hv]; exact hz, fun p hp => ⟨p, vs, rfl, SqT.of upd_same, hv, ?_⟩⟩
  have a2 := fresh_sh (o := .tup vs) a.ok hp
  exact gNames_run hv (l.nx _ k _ _ _ (parO_aft ok n dm hb (a.trans a2) (AvsOk.aft2 a.ok a2 (a.dm ok) q) hl))
theorem RepF.put {f : Str} {v : V} {x : Mp.D} (h : Rep K mg Hs v x) : ∀ {gs : List (Str × V)} {fs : List (Str × Mp.D)}, RepF K mg Hs gs fs → RepF K mg Hs (putF f v gs) (putFd f x fs)
  | _, _, .nil => by unfold putF putFd; exact .cons h .nil
  | _, _, .cons (k := g) q r => by
    unfold putF putFd
    by_cases e : g = f
    · simp only [e, if_true]; exact .cons h r
    · simp only [e, if_false]; exact .cons q (r.put h)
theorem RepF.length : ∀ {gs : List (Str × V)} {fs : List (Str × Mp.D)}, RepF K mg Hs gs fs → gs.length = fs.length
  | _, _, .nil => rfl
  | _, _, .cons _ r => congrArg (· + 1) r.length
theorem RepF.look {f : Str} {x : Mp.D} : ∀ {gs : List (Str × V)} {fs : List (Str × Mp.D)}, RepF K mg Hs gs fs → fs.lookup f = some x → ∃ v, gs.lookup f = some v ∧ Rep K mg Hs v x
  | _, _, .nil, e => by cases e
  | _, _, .cons (k := g) (v := v) q r, e => by
    rw [List.lookup_cons] at e
    cases hb : f == g with
    | true =>
      rw [hb] at e; cases e
      exact ⟨v, by rw [List.lookup_cons, hb], q⟩
    | false =>
      rw [hb] at e
      obtain ⟨v', h1, h2⟩ := r.look e
      exact ⟨v', by rw [List.lookup_cons, hb]; exact h1, h2⟩
theorem RepF.lookN {f : Str} : ∀ {gs : List (Str × V)} {fs : List (Str × Mp.D)}, RepF K mg Hs gs fs → fs.lookup f = none → gs.lookup f = none
  | _, _, .nil, _ => rfl
  | _, _, .cons (k := g) (v := v) q r, e => by
    rw [List.lookup_cons] at e
    cases hb : f == g with
    | true => rw [hb] at e; cases e
    | false =>
      rw [hb] at e
      rw [List.lookup_cons, hb]
      exact r.lookN e
/-- a slot's content is changed at its place -/
theorem put_aft {i : Nat} {v : V} {r0 r : RV} {Hs' H' : Hp} (ok : EnvOk K mg Hs H σ env) (n : New bor H0 σ env) (a : Aft K mg Hs H σ env Hs1 H1 env1) (e0 : env1[i]? = some (some r0)) (s0 : σ[i]? = some (some v)) (o : r0.own = true)
    (t : T (fun b => v = .ref b) Hs1 H1 Hs' H') (sb : Same Hs' H') (w : Own K mg Hs' H' v r) (o2 : r.own = true) : AftS K mg bor H0 Hs H σ env Hs' H' σ (env1.set i (some r)) := by
  have t' : T (fun b => r0.own = true ∧ v = .ref b) Hs1 H1 Hs' H' := t.mono fun b e => .inl ⟨o, e⟩
  obtain ⟨ok2, sub⟩ := a.ok.put (rv := r) e0 (fun _ => o) s0 t' sb w
  have g : Go env1 (env1.set i (some r)) := ⟨sub, Stay.set, by rw [List.length_set]⟩
  exact AftS.of (a.step t' (fun b q => .inl ⟨i, r0, e0, o, by rw [s0, q.2]⟩) ok2 g) n
/-- the class is a plain one and has no attribute f of its own -/
def SetOk (K : PySem.W.Frag) (mg : Str → Option Value) (c f : Str) : Prop := ∀ C, mg c = some (.ref C) → Cls K C ∧ NoAttr K C f
theorem r_setattr {c : Str} {i : Nat} {f : Str} {e : SE} (hc : SetOk K mg c f) (h : tS K mg bor H0 (denS nx0 bor (.setattr c i f e)) D σ H) : sFld K (tVar i) (gh (tV K mg (den2 nx0 e).v)) f D σ H := by
  obtain ⟨Hs, env, Dm, ok, n, dm, w, l⟩ := h
  refine useD ok w fun d env1 v Hs1 H1 k a r => ?_
  obtain ⟨fs, e1, hl, k⟩ := k
  obtain ⟨v0, s0, w0⟩ := a.ok.at_ i _ e1
  obtain ⟨b, C, dx, gs, rfl, hm, hb, hs, rf⟩ := w0
  refine ⟨_, s0, b, C, dx, gs, rfl, hb, (hc C hm).1, (hc C hm).2, by rw [rf.length]; omega, ?_⟩
  have hne : ∀ b', V.ref b = .ref b' → b' = b := fun b' q => (V.ref.inj q).symm
  have t : T (fun b' => V.ref b = .ref b') Hs1 H1 Hs1 (upd H1 b (.ins C dx (putF f v gs))) := ⟨Same.refl _, fun x u q nx => by rw [upd_ne (fun z => nx (by rw [z]))]; exact q, fun x q => by
    by_cases z : x = b
    · subst z; rw [upd_same] at q; cases q
    · rw [upd_ne z] at q; exact q, fun x q => .inl q⟩
  have sb : Same Hs1 (upd H1 b (.ins C dx (putF f v gs))) := fun x u q => by
    by_cases z : x = b
    · subst z; rw [hs] at q; cases q
    · rw [upd_ne z]; exact a.ok.sub x u q
  exact l.nx _ k _ _ _ (put_aft ok n a e1 s0 rfl t sb ⟨b, C, dx, _, rfl, hm, upd_same, hs, rf.put r⟩ rfl)
def rSetA : TSet := fun o j v H Q => rSetL o j v H Q ∨ ∃ a kvs k, o = .ref a ∧ H a = some (.dK kvs) ∧ j = kV k ∧ kvs.length < sizeLine ∧ Q (upd H a (.dK (putK kvs k v)))
theorem set_any {X : Cx} (hu : X.A.units + 1 < cLine) : PSet X rSetA := by
  intro pins s σ H o i v ov iv u Q I ro ri rv h
  rcases h with h | ⟨a, kvs, k, rfl, ha, rfl, hz, q⟩
  · exact set_list pins s σ H o i v ov iv u Q I ro ri rv h
  · cases ro
    exact d_setItem hu I (.inl ⟨kvs, k, ha, rfl, hz, rfl⟩) ri rv fun s' I' => ⟨_, I', q⟩
theorem r_setsub {i : Nat} {ix e : SE} (h : tS K mg bor H0 (denS nx0 bor (.setsub i ix e)) D σ H) :
    tAsg (gh (tV K mg (den2 nx0 e).v)) (gSub (tVar i) (gh (tV K mg (den2 nx0 ix).v)) rSetA) D σ H := by
  obtain ⟨Hs, env, Dm, ok, n, dm, w, l⟩ := h
  refine useD ok w fun d env1 v Hs1 H1 k a r => ?_
  obtain ⟨⟨c0, ec0⟩, k⟩ := k
  obtain ⟨v0, s0, _⟩ := a.ok.at_ i _ ec0
  refine ⟨v0, s0, useD a.ok k fun j env2 vj Hs2 H2 k2 a2 rj => ?_⟩
  obtain ⟨c, c', e1, es, k2⟩ := k2
  obtain ⟨v1, s1, w1⟩ := a2.ok.at_ i _ e1
  rw [s0] at s1; cases s1
  have r2 := r.mono a2.t.same
  have a12 := a.trans a2
  have mk : ∀ (b : Addr) (u : HO), Hs2 b = none → T (fun b' => V.ref b = .ref b') Hs2 H2 Hs2 (upd H2 b u) ∧ Same Hs2 (upd H2 b u) := fun b u hs => ⟨⟨Same.refl _, fun x u q nx => by rw [upd_ne (fun z => nx (by rw [z]))]; exact q, fun x q => by
    by_cases z : x = b
    · subst z; rw [upd_same] at q; cases q
    · rw [upd_ne z] at q; exact q, fun x q => .inl q⟩, fun x u q => by
    by_cases z : x = b
    · subst z; rw [hs] at q; cases q
    · rw [upd_ne z]; exact a2.ok.sub x u q⟩
  cases c with
  | d x => cases es
  | oins _ _ => cases es
  | olst xs =>
    obtain ⟨b, vs, rfl, hb, hs, rs⟩ := w1
    cases rj with
    | int =>
      rename_i ki
      have es : (ixN xs.length ki).map (fun j => RV.olst (xs.set j d)) = some c' := es
      obtain ⟨m, hm, rfl⟩ := Option.map_eq_some_iff.mp es
      obtain ⟨t, sb⟩ := mk b (.lst (vs.set m v)) hs
      exact .inl ⟨b, vs, ki, m, rfl, rfl, hb, by rw [rs.length]; exact hm, l.nx _ k2 _ _ _ (put_aft ok n a12 e1 s0 rfl t sb ⟨b, _, rfl, upd_same, hs, Reps.set r2 m rs⟩ rfl)⟩
    | _ => cases es
  | odic kvs =>
    obtain ⟨b, ks, rfl, hb, hs, rs⟩ := w1
    have es : (match keyOf j with | some k => if kvs.length < sizeLine then some (RV.odic (putD kvs k d)) else none | none => none) = some c' := es
    cases hk : keyOf j with
    | none => rw [hk] at es; cases es
    | some ky =>
      rw [hk] at es
      have es : (if kvs.length < sizeLine then some (RV.odic (putD kvs ky d)) else none) = some c' := es
      by_cases hz : kvs.length < sizeLine
      · rw [if_pos hz] at es; cases es
        obtain ⟨t, sb⟩ := mk b (.dK (putK ks ky v)) hs
        exact .inr ⟨b, ks, ky, rfl, hb, key_rep hk rj, by rw [rs.length]; exact hz, l.nx _ k2 _ _ _ (put_aft ok n a12 e1 s0 rfl t sb ⟨b, _, rfl, upd_same, hs, rs.put r2⟩ rfl)⟩
      · rw [if_neg hz] at es; cases es
theorem r_aug {i : Nat} {op : Operator} {dn : Den} {e : SE} (h : tS K mg bor H0 (denS nx0 bor (.aug i op dn e)) D σ H) : tAug i (gh (tV K mg (den2 nx0 e).v)) (fun x y H Q => spD K mg dn [x, y] H Q E0) D σ H := by
  obtain ⟨Hs, env, Dm, ok, n, dm, ⟨x, ex, w⟩, l⟩ := h
  obtain ⟨vx, sx, wx⟩ := ok.at_ i _ ex
  refine ⟨vx, sx, useD ok w fun d env1 v Hs1 H1 k a r => ?_⟩
  obtain ⟨e1, hb, k⟩ := k
  have wx1 : Rep K mg Hs1 vx x := Rep.mono a.t.same wx
  refine callS ok a (.cons (av := .rv (.d x)) ⟨wx1, fun z => nomatch z⟩ (.cons (av := .rv (.d d)) ⟨r, fun z => nomatch z⟩ .nil fun r er o => by cases er; cases o) fun r er o => by cases er; cases o) k fun r env2 v2 Hs2 H2 k2 a2 av2 => ?_
  obtain ⟨z, ez, k2⟩ := k2
  cases ez
  exact l.nx _ k2 _ _ _ (store_aft ok n dm hb a2 av2.1 fun z => nomatch z)
end
end Mp
namespace Mp
open PySem PySem.Spec PyProof.Rows L2

/-! ### the text of a part -/
def visB (sc : Scope) (x : Str) : Bool := match sc.names.lookup x with
  | some .local => true
  | some .cell => true
  | some .free => true
  | _ => false
def glB (sc : Scope) (x : Str) : Bool := match sc.names.lookup x with
  | some .globalImplicit => true
  | _ => false
def nmB (x : Str) : Bool := !(x == ("__debug__" : Str)) && !(x == ("__classdict__" : Str))
def nsup : Expr → Bool
  | .Call (.Name _ _) [] [] _ => false
  | _ => true
def isOp : Bool → BoolOp → Bool
  | true, .And => true
  | false, .Or => true
  | _, _ => false
def loB (sc : Scope) (fn : Str → Bool) (x : Str) : Bool := match sc.names.lookup x with
  | some .local => true
  | some .cell => fn x
  | _ => false
def mtNames (N : List Str) (sc : Scope) (fn : Str → Bool) : List Nat → List Expr → Bool
  | [], [] => true
  | i :: l, .Name x _ :: es => decide (N[i]? = some x) && (loB sc fn x && mtNames N sc fn l es)
  | _, _ => false
def mtT (N : List Str) (sc : Scope) (fn : Str → Bool) : Tg → Expr → Bool
  | .name i, .Name x _ => decide (N[i]? = some x) && loB sc fn x
  | .tup l, .Tuple es _ _ => mtNames N sc fn l es
  | _, _ => false
def fnOf (scope : Scope) : Str → Bool := fun x => scope.names.lookup x == some .cell
def ownP (N : List Str) (own : List Nat) : List (Str × Nat) := own.map fun i => (N.getD i Str.empty, i)
/-- neither a star nor a set nor a slice -/
def okE : Expr → Bool
  | .Starred _ _ => false
  | .Set _ _ _ => false
  | .Slice _ _ _ _ => false
  | _ => true
def noComp : Expr → Bool
  | .ListComp _ _ _ _ => false
  | .DictComp _ _ _ _ _ => false
  | .SetComp _ _ _ _ => false
  | _ => true
def Src.plain : Src → Bool
  | .slot _ => false
  | _ => true
mutual
def mtE (N : List Str) (sc : Scope) : SE → Expr → Bool
  | .var i, e => match e with
    | .Name x _ => decide (N[i]? = some x) && (visB sc x && nmB x)
    | _ => false
  | .lit c, e => match e with
    | .Constant k _ _ => (match c, k with
      | .non, .none => true
      | .bl a, .bool b => a == b
      | .int a, .int b => decide (a = b)
      | .str a, .str b => decide (a = b)
      | _, _ => false)
    | _ => false
  | .glo x _, e => match e with
    | .Name y _ => decide (x = y) && (glB sc x && nmB x)
    | _ => false
  | .prim sh _ args, e => match sh with
    | .bin op => (match e with
      | .BinOp a op' b _ => decide (op = op') && mtAs N sc args [a, b]
      | _ => false)
    | .cmp op => (match e with
      | .Compare a [op'] [b] _ => decide (op = op') && mtAs N sc args [a, b]
      | _ => false)
    | .un op => (match e with
      | .UnaryOp op' a _ => decide (op = op') && (decide (op ≠ .Not) && mtAs N sc args [a])
      | _ => false)
    | .sub => (match e with
      | .Subscript a b _ => mtAs N sc args [a, b]
      | _ => false)
    | .attr f => (match e with
      | .Attribute a f' _ => decide (f = f') && (nsup a && mtAs N sc args [a])
      | _ => false)
    | .call x => (match e with
      | .Call (.Name y _) es [] _ => decide (x = y) && (glB sc x && (!es.isEmpty && mtAs N sc args es))
      | _ => false)
    | .call0 x => (match e with
      | .Call (.Name y _) [] [] _ => decide (x = y) && (glB sc x && mtAs N sc args [])
      | _ => false)
  | .meth _ m _ o args, e => match e with
    | .Call (.Attribute a m' apos) es [] pos => decide (m = m') && (nsup a && (apos.endLine == pos.line && (decide (es.length < 20) && (mtE N sc o a && mtAs N sc args es))))
    | _ => false
  | .slice _ a lo hi, e => match e with
    | .Subscript x (.Slice l u none _) _ => mtE N sc a x && (mtO N sc lo l && mtO N sc hi u)
    | _ => false
  | .boolv isAnd es, e => match e with
    | .BoolOp op vs _ => isOp isAnd op && mtAs N sc es vs
    | _ => false
  | .notv a, e => match e with
    | .UnaryOp .Not x _ => mtE N sc a x
    | _ => false
  | .ite t a b, e => match e with
    | .IfExp x y z _ => mtE N sc t x && (mtE N sc a y && mtE N sc b z)
    | _ => false
  | .chain o1 _ o2 _ a b c, e => match e with
    | .Compare x [p1, p2] [y, z] _ => decide (o1 = p1) && (decide (o2 = p2) && (mtE N sc a x && (mtE N sc b y && mtE N sc c z)))
    | _ => false
  | .lst es, e => match e with
    | .List xs _ => mtDs N sc es xs
    | _ => false
  | .tup es, e => match e with
    | .Tuple xs _ _ => mtDs N sc es xs
    | _ => false
  | .lc own tg src cond elt, e => match e with
    | .ListComp x [⟨t, it, ifs, asy⟩] scope _ => asy == 0 && (blkC N sc scope (ownP N own) && (decide (∀ i ∈ tg.slots, i ∈ own) && (mtSrc N sc t src it && (mtT N (relS scope sc) (fnOf scope) tg t && (mtC N (relS scope sc) cond ifs && mtE N (relS scope sc) elt x)))))
    | _ => false
  | .lc2 own own1 tg src cond tg1 src1 cond1 elt, e => match e with
    | .ListComp x [⟨t, it, ifs, asy⟩, ⟨t1, it1, ifs1, asy1⟩] scope _ => asy == 0 && (src.plain && (src1.plain && (asy1 == 0 && (blkC N sc scope (ownP N own) && (decide (∀ i ∈ tg.slots, i ∈ own) && (decide (∀ i ∈ tg1.slots, i ∈ own1) && (decide (∀ i ∈ own1, i ∈ own) && (mtSrc N sc t src it && (mtT N (relS scope sc) (fnOf scope) tg t && (mtC N (relS scope sc) cond ifs &&
        (mtSrc N (relS scope sc) t1 src1 it1 && (mtT N (relS scope sc) (fnOf scope) tg1 t1 && (mtC N (relS scope sc) cond1 ifs1 && mtE N (relS scope sc) elt x)))))))))))))
    | _ => false
  | .dc own tg src cond k v, e => match e with
    | .DictComp x y [⟨t, it, ifs, asy⟩] scope _ => asy == 0 && (src.plain && (blkC N sc scope (ownP N own) && (decide (∀ i ∈ tg.slots, i ∈ own) && (mtSrc N sc t src it && (mtT N (relS scope sc) (fnOf scope) tg t && (mtC N (relS scope sc) cond ifs && (mtE N (relS scope sc) k x && mtE N (relS scope sc) v y)))))))
    | _ => false
  | .dct args, e => match e with
    | .Dict ks vs _ => decide (ks.length ≤ 15) && mtPs N sc args ks vs
    | _ => false
  | .star2 a b, e => match e with
    | .Dict [none, none] [x, y] _ => mtE N sc a x && mtE N sc b y
    | _ => false
  | .starkv a k v, e => match e with
    | .Dict [none, some z] [x, y] _ => mtE N sc a x && (mtE N sc k z && mtE N sc v y)
    | _ => false
  | .callk x _ args ks kargs, e => match e with
    | .Call (.Name y _) es kws _ => decide (x = y) && (glB sc x && (mtAs N sc args es && mtKs N sc kargs ks kws))
    | _ => false
  | .frzv a, e => okE e && (noComp e && mtE N sc a e)
  | .callss x _ a, e => match e with
    | .Call (.Name y _) [] [⟨none, v, _⟩] _ => decide (x = y) && (glB sc x && mtE N sc a v)
    | _ => false
def mtKs (N : List Str) (sc : Scope) : SEs → List Str → List Keyword → Bool
  | .nil, [], [] => true
  | .cons e r, k :: ks, ⟨some n, v, _⟩ :: kws => decide (n = k) && (mtE N sc e v && mtKs N sc r ks kws)
  | _, _, _ => false
def mtPs (N : List Str) (sc : Scope) : SEs → List (Option Expr) → List Expr → Bool
  | .nil, [], [] => true
  | .cons k (.cons v r), some x :: ks, y :: vs => mtE N sc k x && (mtE N sc v y && mtPs N sc r ks vs)
  | _, _, _ => false
def mtAs (N : List Str) (sc : Scope) : SEs → List Expr → Bool
  | .nil, es => match es with
    | [] => true
    | _ => false
  | .cons e r, es => match es with
    | x :: xs => mtE N sc e x && mtAs N sc r xs
    | [] => false
  | .star _ _, _ => false
def mtDs (N : List Str) (sc : Scope) : SEs → List Expr → Bool
  | .nil, es => match es with
    | [] => true
    | _ => false
  | .cons e r, es => match es with
    | x :: xs => mtE N sc e x && mtDs N sc r xs
    | [] => false
  | .star e r, es => match es with
    | .Starred x _ :: xs => mtE N sc e x && mtDs N sc r xs
    | _ => false
def mtO (N : List Str) (sc : Scope) : SEs → Option Expr → Bool
  | .nil, o => match o with
    | none => true
    | _ => false
  | .cons e .nil, o => match o with
    | some x => mtE N sc e x
    | none => false
  | _, _ => false
def mtC (N : List Str) (sc : Scope) : SEs → List Expr → Bool
  | .nil, es => match es with
    | [] => true
    | _ => false
  | .cons e .nil, es => match es with
    | [x] => mtE N sc e x
    | _ => false
  | _, _ => false
def mtSrc (N : List Str) (sc : Scope) (t : Expr) : Src → Expr → Bool
  | .val e, it => mtE N sc e it
  | .rng1 e, it => match it with
    | .Call (.Name f _) [a] [] _ => decide (f = "range") && (glB sc f && mtE N sc e a)
    | _ => false
  | .rng2 d e, it => match it with
    | .Call (.Name f _) [a, b] [] _ => decide (f = "range") && (glB sc f && (mtE N sc d a && mtE N sc e b))
    | _ => false
  | .enm e, it => match it with
    | .Call (.Name f _) [a] [] _ => decide (f = "enumerate") && (glB sc f && ((match t with | .Tuple _ _ _ => true | _ => false) && mtE N sc e a))
    | _ => false
  | .items e, it => match it with
    | .Call (.Attribute a m apos) [] [] pos => decide (m = "items") && (nsup a && (apos.endLine == pos.line && ((match t with | .Tuple _ _ _ => true | _ => false) && mtE N sc e a)))
    | _ => false
  | .slot i, it => match it with
    | .Name x _ => decide (N[i]? = some x) && (visB sc x && nmB x)
    | _ => false
end
/-! ### what the operations in a part must keep -/
mutual
def Wf (c : CC) : SE → Prop
  | .var _ => True
  | .lit _ => True
  | .glo x d => GloOk c x d
  | .prim sh dn args => PrimOk c sh dn ∧ WfA c args
  | .meth ck m dn o args => MethOk c m ck dn ∧ Wf c o ∧ WfA c args
  | .slice dn a lo hi => SliceOk c dn (match lo with | .nil => false | _ => true) (match hi with | .nil => false | _ => true) ∧ Wf c a ∧ WfA c lo ∧ WfA c hi
  | .boolv _ es => WfA c es
  | .notv a => Wf c a
  | .ite t a b => Wf c t ∧ Wf c a ∧ Wf c b
  | .chain o1 d1 o2 d2 a b d => PrimOk c (.cmp o1) d1 ∧ PrimOk c (.cmp o2) d2 ∧ Wf c a ∧ Wf c b ∧ Wf c d
  | .lst es => WfA c es
  | .tup es => WfA c es
  | .lc _ _ src cond elt => WfS c src ∧ WfA c cond ∧ Wf c elt
  | .lc2 _ _ _ src cond _ src1 cond1 elt => WfS c src ∧ WfA c cond ∧ WfS c src1 ∧ WfA c cond1 ∧ Wf c elt
  | .dc _ _ src cond k v => WfS c src ∧ WfA c cond ∧ Wf c k ∧ Wf c v
  | .dct args => WfA c args
  | .star2 a b => Wf c a ∧ Wf c b
  | .starkv a k v => Wf c a ∧ Wf c k ∧ Wf c v
  | .callk x dn args ks kargs => CallKOk c x args.len ks dn ∧ WfA c args ∧ WfA c kargs
  | .callss x dn a => CallSSOk c x dn ∧ Wf c a
  | .frzv a => Wf c a
def WfA (c : CC) : SEs → Prop
  | .nil => True
  | .cons e r => Wf c e ∧ WfA c r
  | .star e r => Wf c e ∧ WfA c r
def WfS (c : CC) : Src → Prop
  | .val e => Wf c e
  | .rng1 e => c.mg "range" = none ∧ Wf c e
  | .rng2 a b => c.mg "range" = none ∧ Wf c a ∧ Wf c b
  | .enm e => c.mg "enumerate" = none ∧ Wf c e
  | .items e => Wf c e
  | .slot _ => True
end
/-! ### small facts of the text -/
section
variable {X : Cx} {N : List Str} {sc : Scope}
theorem vis_of {x : Str} (h : visB sc x = true) : Vis sc x := by
  unfold visB at h
  split at h
  · exact .inl ‹_›
  · exact .inr (.inl ‹_›)
  · exact .inr (.inr ‹_›)
  · cases h
theorem gl_of {x : Str} (h : glB X.env.scope x = true) : Gl X x := by
  unfold glB at h
  split at h
  · rename_i q; exact q
  · cases h
theorem nm_of {x : Str} (h : nmB x = true) : (x == ("__debug__" : Str)) = false ∧ (x == ("__classdict__" : Str)) = false := by
  unfold nmB at h
  simp only [Bool.and_eq_true, Bool.not_eq_true'] at h
  exact h
theorem lo_of {x : Str} {fn : Str → Bool} (hf : ∀ y, fn y = true → X.fn y = true) (h : loB X.env.scope fn x = true) : Loc X.env.scope x ∧ (X.fn x = true ∨ X.env.scope.names.lookup x = some .local) := by
  unfold loB at h
  split at h
  · exact ⟨.inl ‹_›, .inr ‹_›⟩
  · exact ⟨.inr ‹_›, .inl (hf _ h)⟩
  · cases h
theorem names_of {fn : Str → Bool} (hf : ∀ y, fn y = true → X.fn y = true) : ∀ {l : List Nat} {es : List Expr}, mtNames X.N X.env.scope fn l es = true → NamesAt X es l
  | [], [], _ => .nil
  | [], _ :: _, h => by cases h
  | i :: l, [], h => by cases h
  | i :: l, e :: es, h => by
    cases e with
    | Name x p =>
      simp only [mtNames, Bool.and_eq_true, decide_eq_true_eq] at h
      obtain ⟨h1, h2, h3⟩ := h
      obtain ⟨q1, q2⟩ := lo_of hf h2
      exact .cons h1 q1 q2 (names_of hf h3)
    | _ => cases h
theorem s_tg {fn : Str → Bool} {tg : Tg} {t : Expr} (hc : X.calm = true) (hN : X.N.Nodup) (hf : ∀ y, fn y = true → X.fn y = true) (h : mtT X.N X.env.scope fn tg t = true) : PG X t (tG X.K X.mg tg) := by
  cases tg with
  | name i =>
    cases t with
    | Name x p =>
      simp only [mtT, Bool.and_eq_true, decide_eq_true_eq] at h
      obtain ⟨q1, q2⟩ := lo_of hf h.2
      exact s_tgName hN h.1 q1 q2
    | _ => cases h
  | tup l =>
    cases t with
    | Tuple es k p => exact s_tgTup hc hN (names_of hf h)
    | _ => cases h
theorem nsup_of {a : Expr} (h : nsup a = true) (f : Str) (env : PySem.Env) (w : Sem Value) : attributeBase a f env w = w := by
  unfold attributeBase
  split
  · cases h
  · rfl
theorem mt_ok {se : SE} {e : Expr} (h : mtE N sc se e = true) : okE e = true := by
  cases se <;> first
    | (cases e <;> first | rfl | cases h)
    | (rename_i sh _ _
       cases sh <;> cases e <;> first | rfl | cases h)
theorem ok_star {e : Expr} (h : okE e = true) (es : List Expr) (env : PySem.Env) : starEach (e :: es) env = (false, eval e env) :: starEach es env := by
  cases e <;> first | rfl | cases h
theorem ok_nostar {e : Expr} (h : okE e = true) : ∀ y q, e ≠ .Starred y q := fun y q z => by subst z; cases h
theorem ok_marks {e : Expr} (h : okE e = true) (op : CmpOp) : behindInMarks op e = false := by
  cases e <;> first | rfl | cases h
theorem ok_fold {e : Expr} (h : okE e = true) (env : PySem.Env) (x : Value) : foldedSetIterable e env x = pure x := by
  cases e <;> first | rfl | cases h
theorem ok_ix {e : Expr} (h : okE e = true) : PlainIx e := by
  intro o i
  cases e <;> first | rfl | cases h
theorem mtAs_len : ∀ {es : SEs} {xs : List Expr}, mtAs N sc es xs = true → xs.length = es.len
  | .nil, [], _ => rfl
  | .nil, _ :: _, h => by cases h
  | .cons a r, [], h => by cases h
  | .star a r, _, h => by simp [mtAs] at h
  | .cons a r, x :: xs, h => by
    simp only [mtAs, Bool.and_eq_true] at h
    exact congrArg (· + 1) (mtAs_len h.2)
theorem mtSrc_ok {t it : Expr} {src : Src} (h : mtSrc N sc t src it = true) : okE it = true := by
  cases src with
  | val e => exact mt_ok h
  | _ => (cases it <;> first | rfl | (simp [mtSrc] at h))
theorem mtAs_ok : ∀ {es : SEs} {xs : List Expr}, mtAs N sc es xs = true → ∀ e ∈ xs, okE e = true
  | .nil, [], _ => fun e he => by simp at he
  | .nil, _ :: _, h => by cases h
  | .cons a r, [], h => by cases h
  | .star a r, _, h => by simp [mtAs] at h
  | .cons a r, x :: xs, h => fun e he => by
    simp only [mtAs, Bool.and_eq_true] at h
    rcases List.mem_cons.mp he with q | q
    · subst q; exact mt_ok h.1
    · exact mtAs_ok h.2 e q
end
end Mp
namespace PySem
open PySem.Spec PyProof.Rows
section
variable {prog : Program} {w : World} {K : Type} [DecidableEq K] {knd : KeyKind prog w K} {A : Around} {E : Value → Shared → Prop} {s : Shared}
/-- an entry put into a dict -/
theorem mp_dictPut {d : Addr} {kvs : List (K × Value)} {k : K} {key v : Value} {Q : Unit → Shared → Prop} (hkey : knd.is k key = true) (hm : s.heap.DictOf knd d kvs)
    (hQ : ∀ h', h'.DictOf knd d (stored kvs k v) → Heap.SameBut d s.heap h' → Q () { s with heap := h' })
    (hsz : kvs.length ≤ sizeLine) : wpAny (model prog w) A (dictPut d (knd.hash k) key v) Q E s := by
  obtain ⟨o, es, ep, ho, hc, hd, hk, hp, hn⟩ := hm
  have hes : es.size ≤ sizeLine := by
    have e1 := hp.length
    have e2 : es.toList.length = es.size := by simp
    omega
  unfold dictPut
  refine wpAny_bind (wpAny_dictFind_of hkey ho hd hk ?_)
  have hidx : (es.findIdx? fun e => knd.is k e.key) = kvs.findIdx? fun kv => decide (kv.1 = k) := by
    rw [← hp.findIdx k]; obtain ⟨l⟩ := es; simp
  cases hi : es.findIdx? fun e => knd.is k e.key with
  | some i =>
    refine wpAny_updateDict ho hd (hQ _ ⟨_, _, ep, Heap.get?_update_self _ ho (Obj.isFreed_of_dict (Obj.data_mapDict hd _)), hc.mapDict _, Obj.data_mapDict hd _, hk.modify _ _, ?_, ?_⟩ (Heap.SameBut.update ..))
    · rw [stored, if_pos (any_of_findIdx_some (hidx ▸ hi))]
      have hl : (es.toList.findIdx? fun e => knd.is k e.key) = some i := by rw [← hi]; obtain ⟨l⟩ := es; simp
      have := hp.modify hn hl v
      obtain ⟨l⟩ := es
      simpa using this
    · rw [stored, if_pos (any_of_findIdx_some (hidx ▸ hi)), keys_map_store]; exact hn
  | none =>
    have hnot : k ∉ kvs.map (·.1) := not_mem_of_findIdx_none (hidx ▸ hi)
    have hany : ¬ (kvs.any fun kv => decide (kv.1 = k)) = true := by
      rw [List.any_eq_true]; rintro ⟨kv, hkv, he⟩
      exact hnot (List.mem_map.mpr ⟨kv, hkv, of_decide_eq_true he⟩)
    refine wpAny_updateDictKeys (hz := hes) ho hd (hQ _ ⟨_, _, ep + 1, Heap.get?_update_self _ ho (Obj.isFreed_of_dict (Obj.data_mapDictKeys hd _)), hc.mapDictKeys _, Obj.data_mapDictKeys hd _, hk.push hkey _, ?_, ?_⟩ (Heap.SameBut.update ..))
    · rw [stored, if_neg hany]
      have := hp.append hkey (knd.hash k) v
      obtain ⟨l⟩ := es
      simpa using this
    · rw [stored, if_neg hany, List.map_append, List.nodup_append]
      refine ⟨hn, by simp, ?_⟩
      intro a ha b hb
      simp only [List.map_cons, List.map_nil, List.mem_singleton] at hb
      subst hb
      exact fun e => hnot (e ▸ ha)
theorem mp_merge {d o : Addr} {kvs more : List (K × Value)} {Q : Unit → Shared → Prop} (href : ∀ (k : K) (a : Addr), knd.is k (.ref a) = false) (hdo : d ≠ o) (hoS : (o == sysModules) = false)
    (hd : s.heap.DictOf knd d kvs) (ho : s.heap.DictOf knd o more)
    (hQ : ∀ h', h'.DictOf knd d (merged kvs more) → h'.DictOf knd o more → Heap.SameBut d s.heap h' → Q () { s with heap := h' })
    (hsz : kvs.length + more.length ≤ sizeLine) : wpAny (model prog w) A (mergeMapping d (.ref o) false) Q E s := by
  obtain ⟨od, esd, epd, hod, hcd, hdd, hkd, hpd, hnd⟩ := id hd
  obtain ⟨oo, eso, epo, hoo, hco, hdo', hko, hpo, hno⟩ := id ho
  have hlen : more.length = eso.size := by rw [← hpo.length]; simp
  have loop : wpAny (model prog w) A (do
      let l ← dictEntries o
      let epoch ← dictEpoch o
      forIn (List.range l.size) PUnit.unit fun i (_ : PUnit) => (do
          let l' ← dictEntries o
          match l'[i]? with
            | some e => do
              holding [e.key, e.val] (dictPut d e.hash e.key e.val)
              let ep' ← dictEpoch o
              if (ep' != epoch) = true then do
                  (unsupported "dict.changed-during-merge" : Sem PUnit)
                  pure (ForInStep.yield PUnit.unit)
                else pure (ForInStep.yield PUnit.unit)
            | _ => do
              (unsupported "dict.changed-during-merge" : Sem PUnit)
              pure (ForInStep.yield PUnit.unit) : Sem (ForInStep PUnit))
      pure ()) Q E s := by
    refine wpAny_bind (wpAny_dictEntries hoo hdo' ?_)
    refine wpAny_bind (wpAny_dictEpoch hoo hdo' ?_)
    refine wpAny_bind ?_
    rw [List.range_eq_range']
    refine wpAny_forIn_list _
      (fun rest _ s' => ∃ h' i, s' = { s with heap := h' } ∧ rest = List.range' i (eso.size - i) ∧ i ≤ eso.size ∧ h'.DictOf knd d (merged kvs (more.take i)) ∧ h'.get? o = some oo ∧ Heap.SameBut d s.heap h')
      _ ?_ ?_ _ _ ⟨s.heap, 0, rfl, by simp, Nat.zero_le _, by simpa [merged] using hd, hoo, Heap.SameBut.refl _ _⟩
    · rintro x rest b s' ⟨h', i, rfl, hr, hi, hd', hoo', hs'⟩
      have hlt : i < eso.size := by
        rcases Nat.lt_or_ge i eso.size with h | h
        · exact h
        · rw [Nat.sub_eq_zero_of_le h] at hr; simp at hr
      obtain ⟨rfl, hrest⟩ : x = i ∧ rest = List.range' (i + 1) (eso.size - (i + 1)) := by
        have e : eso.size - i = (eso.size - (i + 1)) + 1 := by omega
        rw [e, List.range'_succ] at hr
        injection hr with h1 h2
        exact ⟨h1, h2⟩
      refine wpAny_bind (wpAny_dictEntries hoo' hdo' ?_)
      rw [Array.getElem?_eq_getElem hlt]
      obtain ⟨kv, hkv⟩ : ∃ kv, more[x]? = some kv := ⟨more[x]'(by rw [hlen]; exact hlt), List.getElem?_eq_getElem _⟩
      obtain ⟨k, v⟩ := kv
      obtain ⟨hkey, hval⟩ := hpo.get? (e := eso[x]) (by simp [hlt]) hkv
      obtain ⟨k', hkey', hhash⟩ := hko eso[x] (Array.getElem_mem hlt)
      obtain rfl : k' = k := knd.inj _ _ _ hkey' hkey
      show wpAny _ _ (holding [eso[x].key, eso[x].val] (dictPut d eso[x].hash eso[x].key eso[x].val) >>= _) _ _ _
      rw [hhash, hval]
      have hmx : (merged kvs (more.take x)).length ≤ sizeLine := by
        have e1 := merged_length_le kvs (more.take x)
        have e2 : (more.take x).length ≤ more.length := by rw [List.length_take]; omega
        omega
      refine wpAny_bind (wpAny_holding (mp_dictPut (hsz := hmx) hkey hd' fun h'' hd'' hs'' => ?_))
      have hoo'' : h''.get? o = some oo := (hs''.2 o (Ne.symm hdo)).trans hoo'
      refine wpAny_bind (wpAny_dictEpoch hoo'' hdo' ?_)
      rw [if_neg (by simp)]
      exact wpAny_pure ⟨h'', x + 1, rfl, hrest, hlt, by rw [merged_take_succ kvs more x (k', v) hkv]; exact hd'', hoo'', hs'.trans hs''⟩
    · rintro b s' ⟨h', i, rfl, hr, hi, hd', hoo', hs'⟩
      have hin : i = eso.size := by
        rcases Nat.lt_or_ge i eso.size with h | h
        · have e : eso.size - i = (eso.size - (i + 1)) + 1 := by omega
          rw [e, List.range'_succ] at hr; exact nomatch hr
        · exact Nat.le_antisymm hi h
      refine wpAny_pure (hQ h' ?_ ⟨oo, eso, epo, hoo', hco, hdo', hko, hpo, hno⟩ hs')
      rw [hin, ← hlen, List.take_length] at hd'; exact hd'
  unfold mergeMapping
  refine wpAny_bind (wpAny_isInstance ho.typeIs isSubtype_dict_dict ?_)
  dsimp only
  rw [if_pos rfl]
  refine wpAny_bind (wpAny_specialOf ho.typeIs F.slot_dict_iter.lookup ?_)
  refine wpAny_bind (wpAny_pure ?_)
  simp only [beq_self_eq_true, Bool.false_eq_true, if_false]
  rw [if_neg (by rw [hoS]; exact Bool.false_ne_true)]
  refine wpAny_bind (wpAny_dictEntries hod hdd ?_)
  split
  · refine wpAny_bind (wpAny_dictEntries hoo hdo' ?_)
    refine wpAny_bind ?_
    rw [← Array.forIn_toList]
    refine wpAny_forIn_list _ (fun rest _ s' => s' = s ∧ ∀ e ∈ rest, e ∈ eso) _ ?_ ?_ _ _ ⟨rfl, fun e h => by simpa using h⟩
    · rintro x rest b s' ⟨rfl, hm⟩
      obtain ⟨k', hk', _⟩ := hko x (hm x (List.mem_cons_self ..))
      split
      · rename_i a ha
        rw [ha, href] at hk'
        cases hk'
      · exact wpAny_pure ⟨rfl, fun e h => hm e (List.mem_cons_of_mem _ h)⟩
    · rintro b s' ⟨rfl, _⟩
      exact loop
  · exact loop
/-- {**a, **b} -/
theorem mp_star2 {ea eb : Expr} {pos : Pos} {Q : Value → Shared → Prop} (href : ∀ (k : K) (a : Addr), knd.is k (.ref a) = false)
    (h : wpAny (model prog w) A (eval ea env) (fun u s1 => ∃ a ks0 ks, u = .ref a ∧ s.heap.objs.size ≠ a ∧ (a == sysModules) = false ∧ s1.heap.DictOf knd s.heap.objs.size ks0 ∧ s1.heap.DictOf knd a ks ∧ ks0.length + ks.length ≤ sizeLine ∧
      ∀ h1, h1.DictOf knd s.heap.objs.size (merged ks0 ks) → h1.DictOf knd a ks → Heap.SameBut s.heap.objs.size s1.heap h1 →
        wpAny (model prog w) A (eval eb env) (fun v s2 => ∃ b ls0 ls, v = .ref b ∧ s.heap.objs.size ≠ b ∧ (b == sysModules) = false ∧ s2.heap.DictOf knd s.heap.objs.size ls0 ∧ s2.heap.DictOf knd b ls ∧ ls0.length + ls.length ≤ sizeLine ∧
          ∀ h2, h2.DictOf knd s.heap.objs.size (merged ls0 ls) → h2.DictOf knd b ls → Heap.SameBut s.heap.objs.size s2.heap h2 → Q (.ref s.heap.objs.size) { s2 with heap := h2 }) E { s1 with heap := h1 }) E
      { s with heap := s.heap.push { cls := .type "dict", data := .dict #[] } }) :
    wpAny (model prog w) A (eval (.Dict [none, none] [ea, eb] pos) env) Q E s := by
  unfold eval
  refine wpAny_bind (wpAny_standAt ?_)
  unfold dictDisplay
  simp only [evalEachOpt, evalEach, evalOpt, List.map_cons, List.map_nil, List.zip_cons_cons, List.zip_nil_right, List.forIn_cons, List.forIn_nil, List.isEmpty_nil, if_true, bind_assoc, pure_bind]
  refine wpAny_bind (wpAny_alloc ?_)
  refine wpAny_bind (wpAny_holding (wpAny_bind (wpAny_mono h (fun u s1 hu => ?_) fun _ _ e => e)))
  obtain ⟨a, ks0, ks, rfl, n1, n2, d1, d2, hz, hu⟩ := hu
  refine wpAny_bind (wpAny_standAt (wpAny_pure ?_))
  refine wpAny_bind (wpAny_onRaise (wpAny_tryCatch (wpAny_onRaise (wpAny_holding (mp_merge (knd := knd) href n1 n2 d1 d2 (fun h1 m1 m2 m3 => ?_) hz)))))
  refine wpAny_bind (wpAny_holding (wpAny_bind (wpAny_mono (hu h1 m1 m2 m3) (fun v s2 hv => ?_) fun _ _ e => e)))
  obtain ⟨b, ls0, ls, rfl, n3, n4, d3, d4, hz2, hv⟩ := hv
  refine wpAny_bind (wpAny_standAt (wpAny_pure ?_))
  refine wpAny_bind (wpAny_onRaise (wpAny_tryCatch (wpAny_onRaise (wpAny_holding (mp_merge (knd := knd) href n3 n4 d3 d4 (fun h2 m4 m5 m6 => ?_) hz2)))))
  exact wpAny_pure (hv h2 m4 m5 m6)
/-- {**a, k: v} -/
theorem mp_starkv {ea ek ev : Expr} {pos : Pos} {Q : Value → Shared → Prop} (href : ∀ (k : K) (a : Addr), knd.is k (.ref a) = false)
    (h : wpAny (model prog w) A (eval ea env) (fun u s1 => ∃ a ks0 ks, u = .ref a ∧ s.heap.objs.size ≠ a ∧ (a == sysModules) = false ∧ s1.heap.DictOf knd s.heap.objs.size ks0 ∧ s1.heap.DictOf knd a ks ∧ ks0.length + ks.length ≤ sizeLine ∧
      ∀ h1, h1.DictOf knd s.heap.objs.size (merged ks0 ks) → h1.DictOf knd a ks → Heap.SameBut s.heap.objs.size s1.heap h1 →
        wpAny (model prog w) A (evalPairs (pairTrees [some ek] [ev] env pos)) (fun vs s2 => ∃ kvs, Carries knd vs kvs ∧ s2.heap.DictOf knd h1.objs.size [] ∧
          ∀ h', h'.DictOf knd h1.objs.size (merged [] kvs) → Heap.SameBut h1.objs.size s2.heap h' → ∃ ls0 ls, s.heap.objs.size ≠ h1.objs.size ∧ (h1.objs.size == sysModules) = false ∧ h'.DictOf knd s.heap.objs.size ls0 ∧ h'.DictOf knd h1.objs.size ls ∧ ls0.length + ls.length ≤ sizeLine ∧
            ∀ h2, h2.DictOf knd s.heap.objs.size (merged ls0 ls) → h2.DictOf knd h1.objs.size ls → Heap.SameBut s.heap.objs.size h' h2 → Q (.ref s.heap.objs.size) { s2 with heap := h2, toks := s2.toks + vs.length }) E
            { s1 with heap := h1.push { cls := .type "dict", data := .dict #[] } }) E
      { s with heap := s.heap.push { cls := .type "dict", data := .dict #[] } }) :
    wpAny (model prog w) A (eval (.Dict [none, some ek] [ea, ev] pos) env) Q E s := by
  unfold eval
  refine wpAny_bind (wpAny_standAt ?_)
  unfold dictDisplay
  simp only [evalEachOpt, evalEach, evalOpt, List.map_cons, List.map_nil, List.zip_cons_cons, List.zip_nil_right, List.forIn_cons, List.forIn_nil, List.isEmpty_nil, if_true, bind_assoc, pure_bind]
  refine wpAny_bind (wpAny_alloc ?_)
  refine wpAny_bind (wpAny_holding (wpAny_bind (wpAny_mono h (fun u s1 hu => ?_) fun _ _ e => e)))
  obtain ⟨a, ks0, ks, rfl, n1, n2, d1, d2, hz, hu⟩ := hu
  refine wpAny_bind (wpAny_standAt (wpAny_pure ?_))
  refine wpAny_bind (wpAny_onRaise (wpAny_tryCatch (wpAny_onRaise (wpAny_holding (mp_merge (knd := knd) href n1 n2 d1 d2 (fun h1 m1 m2 m3 => ?_) hz)))))
  refine wpAny_bind ?_
  rw [if_neg (by simp)]
  refine wpAny_pure (wpAny_bind (wpAny_pure (wpAny_bind ?_)))
  show wpAny _ _ (if ([(eval ek env, do let x ← eval ev env; standAt pos; pure x)] : List (Sem Value × Sem Value)).isEmpty = true then _ else _) _ _ _
  rw [if_neg (by simp)]
  refine wpAny_bind (wpAny_holding (wpAny_subDict (pairs := pairTrees [some ek] [ev] env pos) (knd := knd) (by show 1 ≤ 15; decide) (wpAny_mono (hu h1 m1 m2 m3) (fun vs s2 hv => ?_) fun _ _ e => e)))
  obtain ⟨kvs, c, dd, hv⟩ := hv
  refine ⟨kvs, c, dd, fun h' m4 m5 => ?_⟩
  obtain ⟨ls0, ls, n3, n4, d3, d4, hz2, hv⟩ := hv h' m4 m5
  refine wpAny_bind (wpAny_onRaise (wpAny_holding (mp_merge (knd := knd) href n3 n4 d3 d4 (fun h2 m6 m7 m8 => ?_) hz2)))
  exact wpAny_pure (wpAny_pure (hv h2 m6 m7 m8))
end
end PySem
namespace Mp
open PySem PySem.Spec PyProof.Rows L2
def tStar2 (ta tb : TE) : TE := fun σ H Q => ∀ p, H p = none → ta σ (upd H p (.dK [])) fun x H1 => ∃ a ks0 ks, x = .ref a ∧ p ≠ a ∧ H1 p = some (.dK ks0) ∧ Rd H1 a (.dK ks) ∧ ks0.length + ks.length ≤ sizeLine ∧
  tb σ (upd H1 p (.dK (L2.mergeK ks0 ks))) fun y H2 => ∃ b ls0 ls, y = .ref b ∧ p ≠ b ∧ H2 p = some (.dK ls0) ∧ Rd H2 b (.dK ls) ∧ ls0.length + ls.length ≤ sizeLine ∧ Q (.ref p) (upd H2 p (.dK (L2.mergeK ls0 ls)))
theorem mix_ref {P : Program} {w : World} (k : Key) (a : Addr) : (mixKind P w).is k (.ref a) = false := by
  cases k <;> rfl
theorem pe_star2 {X : Cx} {pos : Pos} {ea eb : Expr} {ta tb : TE} (ha : PE X ea ta) (hb : PE X eb tb) : PE X (.Dict [none, none] [ea, eb] pos) (tStar2 ta tb) := by
  refine ⟨fun pins s σ H Q I q => ?_⟩
  have hn := I.hok.fresh (Nat.le_refl s.heap.objs.size)
  have I1 := I.laid (a := s.heap.objs.size) (o := .dK []) (h' := s.heap.push { cls := .type "dict", data := .dict #[] }) (t' := s.toks) (fun _ _ q => Heap.get?_push_of_some _ q) (Nat.le_refl _) (dk_empty s.heap I.big)
  have put : ∀ {h' : Heap} {s1 : Shared} {H1 : Hp} {ks0 ks : List (Key × V)} {vs0 vs : List (Key × Value)}, Inv X pins σ H1 s1 → H1 s.heap.objs.size = some (.dK ks0) → (s.heap.objs.size == sysModules) = false → KV ks0 vs0 → KV ks vs → ks0.length + ks.length ≤ sizeLine →
      h'.DictOf (mixKind X.prog X.w) s.heap.objs.size (merged vs0 vs) → Heap.SameBut s.heap.objs.size s1.heap h' → Inv X pins σ (upd H1 s.heap.objs.size (.dK (L2.mergeK ks0 ks))) { s1 with heap := h' } := fun {h' s1 H1 ks0 ks vs0 vs} I2 e hd r0 r hz dd hs => by
    have hz' : (L2.mergeK ks0 ks).length ≤ sizeLine := by
      have h1 := length_mergeK ks ks0
      omega
    have he : ∃ q, h'.get? s.heap.objs.size = some q := let ⟨q, _, _, hq, _⟩ := dd; ⟨q, hq⟩
    exact d_write I2 (by rw [e]; exact True.intro) hs he (dk_new hz' hd (r.merge r0) dd)
  refine mp_star2 (knd := mixKind X.prog X.w) mix_ref (thn (ha.run pins _ σ _ _ I1 (q _ hn)) fun u s1 ⟨x, H1, I2, rx, a, ks0, ks, ex, ne, e0, e1, hz, q1⟩ => ?_)
  subst ex
  obtain rfl : u = Value.ref a := rx
  obtain ⟨_, hd0, vs0, r0, dd0⟩ := dk_of I2.hok e0
  obtain ⟨_, hd1, vs1, r1, dd1⟩ := dk_rd I2.hok e1
  refine ⟨a, vs0, vs1, rfl, ne, hd1, dd0, dd1, by rw [← r0.length, ← r1.length]; exact hz, fun h1 m1 m2 m3 => ?_⟩
  have I3 := put I2 e0 hd0 r0 r1 hz m1 m3
  refine thn (hb.run pins _ σ _ _ I3 q1) fun v s2 ⟨y, H2, I4, ry, b, ls0, ls, ey, ne2, f0, f1, hz2, q2⟩ => ?_
  subst ey
  obtain rfl : v = Value.ref b := ry
  obtain ⟨_, hg0, ws0, t0, gg0⟩ := dk_of I4.hok f0
  obtain ⟨_, hg1, ws1, t1, gg1⟩ := dk_rd I4.hok f1
  exact ⟨b, ws0, ws1, rfl, ne2, hg1, gg0, gg1, by rw [← t0.length, ← t1.length]; exact hz2, fun h2 m4 m5 m6 => ⟨V.ref s.heap.objs.size, _, put I4 f0 hg0 t0 t1 hz2 m4 m6, rfl, q2⟩⟩
def tStarkv (ta tk tv : TE) : TE := fun σ H Q => ∀ p, H p = none → ta σ (upd H p (.dK [])) fun x H1 => ∃ a ks0 ks, x = .ref a ∧ p ≠ a ∧ H1 p = some (.dK ks0) ∧ Rd H1 a (.dK ks) ∧ ks0.length + ks.length ≤ sizeLine ∧
  ∀ q, (upd H1 p (.dK (L2.mergeK ks0 ks))) q = none → q ≠ p → tk σ (upd (upd H1 p (.dK (L2.mergeK ks0 ks))) q (.dK [])) fun y H2 => tv σ H2 fun z H3 => ∃ ls0 ky, y = kV ky ∧ H3 p = some (.dK ls0) ∧ H3 q = some (.dK []) ∧ ls0.length < sizeLine ∧ Q (.ref p) (upd (upd H3 q (.dK [(ky, z)])) p (.dK (putK ls0 ky z)))
theorem pe_starkv {X : Cx} {pos : Pos} {ea ek ev : Expr} {ta tk tv : TE} (ha : PE X ea ta) (hk : PE X ek tk) (hv : PE X ev tv) : PE X (.Dict [none, some ek] [ea, ev] pos) (tStarkv ta tk tv) := by
  refine ⟨fun pins s σ H Q I q => ?_⟩
  have hn := I.hok.fresh (Nat.le_refl s.heap.objs.size)
  have I1 := I.laid (a := s.heap.objs.size) (o := .dK []) (h' := s.heap.push { cls := .type "dict", data := .dict #[] }) (t' := s.toks) (fun _ _ q => Heap.get?_push_of_some _ q) (Nat.le_refl _) (dk_empty s.heap I.big)
  have put : ∀ {p : Addr} {h' : Heap} {s1 : Shared} {H1 : Hp} {ks0 ks : List (Key × V)} {vs0 vs : List (Key × Value)}, Inv X pins σ H1 s1 → H1 p = some (.dK ks0) → (p == sysModules) = false → KV ks0 vs0 → KV ks vs → ks0.length + ks.length ≤ sizeLine →
      h'.DictOf (mixKind X.prog X.w) p (merged vs0 vs) → Heap.SameBut p s1.heap h' → Inv X pins σ (upd H1 p (.dK (L2.mergeK ks0 ks))) { s1 with heap := h' } := fun {p h' s1 H1 ks0 ks vs0 vs} I2 e hd r0 r hz dd hs => by
    have hz' : (L2.mergeK ks0 ks).length ≤ sizeLine := by
      have h1 := length_mergeK ks ks0
      omega
    have he : ∃ q, h'.get? p = some q := let ⟨q, _, _, hq, _⟩ := dd; ⟨q, hq⟩
    exact d_write I2 (by rw [e]; exact True.intro) hs he (dk_new hz' hd (r.merge r0) dd)
  refine mp_starkv (knd := mixKind X.prog X.w) mix_ref (thn (ha.run pins _ σ _ _ I1 (q _ hn)) fun u s1 ⟨x, H1, I2, rx, a, ks0, ks, ex, ne, e0, e1, hz, q1⟩ => ?_)
  subst ex
  obtain rfl : u = Value.ref a := rx
  obtain ⟨_, hd0, vs0, r0, dd0⟩ := dk_of I2.hok e0
  obtain ⟨_, hd1, vs1, r1, dd1⟩ := dk_rd I2.hok e1
  refine ⟨a, vs0, vs1, rfl, ne, hd1, dd0, dd1, by rw [← r0.length, ← r1.length]; exact hz, fun h1 m1 m2 m3 => ?_⟩
  have I3 := put I2 e0 hd0 r0 r1 hz m1 m3
  have hn2 := I3.hok.fresh (Nat.le_refl h1.objs.size)
  have np : h1.objs.size ≠ s.heap.objs.size := fun z => by
    rw [z, upd_same] at hn2; cases hn2
  have I4 := I3.laid (a := h1.objs.size) (o := .dK []) (h' := h1.push { cls := .type "dict", data := .dict #[] }) (t' := s1.toks) (fun _ _ q => Heap.get?_push_of_some _ q) (Nat.le_refl _) (dk_empty h1 I3.big)
  refine pairTrees_cons_walk (thn (hk.run pins _ σ _ _ I4 (q1 _ hn2 np)) fun u s2 ⟨y, H2, I5, ry, q2⟩ => thn (hv.run pins _ σ _ _ I5 q2) fun v s3 ⟨z, H3, I6, rz, ls0, ky, ey, f0, f1, hz2, q3⟩ => pairTrees_nil_walk ?_)
  subst ey
  obtain ⟨_, hg0, ws0, t0, gg0⟩ := dk_of I6.hok f0
  obtain ⟨_, hg1, ws1, t1, gg1⟩ := dk_of I6.hok f1
  cases t1
  refine ⟨[(ky, v)], ⟨kV_is ry, rfl, True.intro⟩, gg1, fun h' m4 m5 => ?_⟩
  have I7 : Inv X pins σ (upd H3 h1.objs.size (.dK [(ky, z)])) { s3 with heap := h' } := put (ks := [(ky, z)]) (vs := [(ky, v)]) I6 f1 hg1 .nil (.cons ⟨rfl, rz⟩ .nil) (by show 0 + 1 ≤ sizeLine; decide) m4 m5
  have f0' : (upd H3 h1.objs.size (.dK [(ky, z)])) s.heap.objs.size = some (.dK ls0) := by rw [upd_ne (Ne.symm np)]; exact f0
  obtain ⟨_, hg0', ws0', t0', gg0'⟩ := dk_of I7.hok f0'
  refine ⟨ws0', [(ky, v)], Ne.symm np, hg1, gg0', m4, by rw [← t0'.length]; exact hz2, fun h2 m6 m7 m8 => ⟨V.ref s.heap.objs.size, _, (put (ks := [(ky, z)]) (vs := [(ky, v)]) I7 f0' hg0' t0' (.cons ⟨rfl, rz⟩ .nil) hz2 m6 m8).tok _, rfl, q3⟩⟩
end Mp
namespace Mp
open PySem PySem.Spec PyProof.Rows L2
section
variable {c : CC} {X : Cx}
theorem InC.blk (i : InC c X) (s : Shared) (H : Hp) (scope : Scope) (cenv : PySem.Env) (fp : List Addr) : InC c (X.blk s H scope cenv fp) := ⟨i.eq, i.room, i.calm, i.nd⟩
theorem InC.mg (i : InC c X) : X.mg = c.mg := by rw [← i.eq]; rfl
theorem fz_lst {K : PySem.W.Frag} {mg : Str → Option Value} {Hs H : Hp} {v : V} {d : D} {xs : List D} (s : Same Hs H) (r : Rep K mg Hs v d) (e : seqOf d = some xs) (ns : ∀ z, d ≠ .str z) : ∃ p vs, v = .ref p ∧ (SqT K H p vs ∨ SqL K H p vs) ∧ Reps K mg Hs vs xs := by
  cases r with
  | lst q rs => cases e; exact ⟨_, _, rfl, .inr (SqL.of (s _ _ q)), rs⟩
  | tup q rs => cases e; exact ⟨_, _, rfl, .inl (SqT_same s q), rs⟩
  | str => exact absurd rfl (ns _)
  | _ => cases e
theorem gh_mono {K : PySem.W.Frag} {mg : Str → Option Value} {w : WV} {σ : L2.St} {H : Hp} {Q Q' : VK} (h : gh (tV K mg w) σ H Q) (i : ∀ v H1, Q v H1 → Q' v H1) : gh (tV K mg w) σ H Q' := by
  obtain ⟨Hs, env, Kc, ok, w, z⟩ := h
  exact ⟨Hs, env, Kc, ok, w, fun av env1 k v Hs1 H1 a1 av1 => (z av env1 k v Hs1 H1 a1 av1).imp fun H2 q => i _ _ q⟩
def unflat : List V → List (V × V)
  | x :: y :: r => (x, y) :: unflat r
  | _ => []
theorem pairs_rep {K : PySem.W.Frag} {mg : Str → Option Value} {H : Hp} : ∀ {ds : List D} {vs : List V} {kvs : List (Key × D)}, pairsD ds = some kvs → Reps K mg H vs ds → ∃ ks : List (Key × V), unflat vs = ks.map (fun kv => (kV kv.1, kv.2)) ∧ RepK K mg H ks kvs
  | [], vs, kvs, h, r => by cases h; cases r; exact ⟨[], rfl, .nil⟩
  | [_], vs, kvs, h, r => by cases h
  | k :: v :: ds, vs, kvs, h, r => by
    unfold pairsD at h
    cases hk : keyOf k with
    | none => rw [hk] at h; cases h
    | some ky =>
      rw [hk] at h
      obtain ⟨l, hl, rfl⟩ := Option.map_eq_some_iff.mp h
      cases r with
      | cons q1 r =>
        cases r with
        | cons q2 r =>
          obtain ⟨ks, e, rk⟩ := pairs_rep hl r
          exact ⟨(ky, _) :: ks, by rw [unflat, e, key_rep hk q1]; rfl, .cons q2 rk⟩
theorem rep_merge {K : PySem.W.Frag} {mg : Str → Option Value} {H : Hp} : ∀ (more : List (Key × V)) (more' : List (Key × D)) (ks : List (Key × V)) (kvs : List (Key × D)), RepK K mg H more more' → RepK K mg H ks kvs → RepK K mg H (L2.mergeK ks more) (mergeD kvs more')
  | [], more', ks, kvs, m, r => by cases m; exact r
  | p :: more, more', ks, kvs, m, r => by
    cases m with
    | cons q m =>
      rename_i k v d ds
      have z := rep_merge more ds (putK ks k v) (putD kvs k d) m (r.put q)
      exact z
theorem s_dct {X : Cx} {args : SEs} {keys : List (Option Expr)} {values : List Expr} {pos : Pos} {trs : List (TE × TE)} (hp : PPs X pos keys values trs) (ha : keys.all (·.isSome) = true) (hl : keys.length = values.length) (h0 : keys ≠ []) (h15 : keys.length ≤ 15)
    (hr : ∀ σ H (Q : List (V × V) → Hp → Prop), tK X.K X.mg (denDs nx0 args) σ H (fun vs H1 => Q (unflat vs) H1) → tPairs trs σ H Q) : PE X (.Dict keys values pos) (tV X.K X.mg (den2 nx0 (.dct args)).v) := by
  refine PE_imp (pe_disp hp ha hl h0 h15) fun σ H Q h => ?_
  obtain ⟨Hs, env, Kc, ok, w, h⟩ := h
  intro p hn
  obtain ⟨a2, hs⟩ := fresh_lst (H0 := H) (o := .dK []) ok hn
  refine hr _ _ _ ⟨Hs, env, _, a2.ok, w, fun ds env1 k vs Hs1 H1 a1 rs => ?_⟩
  obtain ⟨kvs, hk, hz, k⟩ := k
  obtain ⟨ks, e, rk⟩ := pairs_rep hk rs
  have nF : ¬ Ft σ env p := fun f => (ok.ftNone f).2 hn
  obtain ⟨hp1, hsp1⟩ := a1.t.out nF upd_same hs
  refine ⟨hp1, ks, e, by rw [rk.length]; exact hz, ?_⟩
  have nF1 : ¬ Ft σ env1 p := fun f => nF (a1.go.sub.ft f)
  obtain ⟨ok7, t7⟩ := chg (o' := .dK (L2.mergeK [] ks)) a1.ok hp1 hsp1 nF1
  have a12 := a2.trans a1
  exact h _ env1 k (.ref p) Hs1 _ (a12.step t7 (fun b eb => .inr (by rw [eb]; exact hn)) ok7 Go.refl) ⟨⟨p, _, rfl, upd_same, hsp1, rep_merge _ _ _ _ rk .nil⟩, fun _ a ea => by cases ea; exact hn⟩
theorem s_dct0 {X : Cx} {pos : Pos} : PE X (.Dict [] [] pos) (tV X.K X.mg (den2 nx0 (.dct .nil)).v) := by
  refine PE_imp pe_dnewK fun σ H Q h => ?_
  obtain ⟨Hs, env, Kc, ok, ⟨kvs, hk, _, w⟩, h⟩ := h
  cases hk
  intro p hn
  obtain ⟨a2, hs⟩ := fresh_lst (H0 := H) (o := .dK []) ok hn
  exact h _ env w (.ref p) Hs _ a2 ⟨⟨p, _, rfl, upd_same, hs, .nil⟩, fun _ a ea => by cases ea; exact hn⟩
theorem tK_star {K : PySem.W.Frag} {mg : Str → Option Value} {σ : L2.St} {H : Hp} {e : SE} {r : SEs} {Q : List V → Hp → Prop} (h : tK K mg (denDs nx0 (.star e r)) σ H Q) : StX.tStar K (gh (tV K mg (den nx0 e))) (tK K mg (denDs nx0 r)) σ H Q := by
  obtain ⟨Hs, env, Kc, ok, w, h⟩ := h
  refine useD ok w fun d env1 v Hs1 H1 k a1 rp => ?_
  obtain ⟨xs, e1, ns, k⟩ := k
  obtain ⟨p, vs, rfl, q, rs⟩ := fz_lst a1.ok.sub rp e1 ns
  exact ⟨p, vs, rfl, q, Hs1, env1, _, a1.ok, k, fun ds env2 k2 ws Hs2 H2 a2 rs2 => h _ env2 k2 _ Hs2 H2 (a1.trans a2) ((rs.mono a2.t.same).append rs2)⟩
theorem PTs_imp {e : List Expr} {t t' : TT} (h : PTs X e t) (i : ∀ σ H Q, t' σ H Q → t σ H Q) : PTs X e t' := ⟨fun pins s σ H Q I q => h.run pins s σ H Q I (i σ H Q q)⟩
theorem PI_imp {tg e : Expr} {t t' : TI} (h : PI X tg e t) (i : ∀ σ H R, t' σ H R → t σ H R) : PI X tg e t' := ⟨fun pins s σ H Q I q => h.run pins s σ H Q I (i σ H Q q)⟩
theorem TC_int {K : PySem.W.Frag} {mg : Str → Option Value} {H : Hp} {vs : List V} {ds : List D} (r : Reps K mg H vs ds) (h : ∀ d ∈ ds, ∃ i, d = .int i) : ∃ is : List Int, vs = is.map V.int ∧ ds = is.map D.int := by
  induction ds generalizing vs with
  | nil => cases r; exact ⟨[], rfl, rfl⟩
  | cons d ds ih =>
    cases r with
    | cons q r =>
      obtain ⟨i, rfl⟩ := h _ List.mem_cons_self
      obtain ⟨is, e1, e2⟩ := ih r fun d hd => h d (List.mem_cons_of_mem _ hd)
      cases q
      exact ⟨i :: is, by rw [e1]; rfl, by rw [e2]; rfl⟩
theorem PK_imp {e : List Keyword} {t t' : TA} (h : PK X e t) (i : ∀ σ H Q, t' σ H Q → t σ H Q) : PK X e t' := ⟨fun pos pins s σ H Q I q => h.run pos pins s σ H Q I (i σ H Q q)⟩
theorem AvsOk.appD {K : PySem.W.Frag} {mg : Str → Option Value} {Hs H H0 : Hp} {σ : L2.St} {env : En} : ∀ {vs : List V} {avs : List AV} {zs : List V} {ds : List D}, AvsOk K mg Hs H σ env H0 vs avs → Reps K mg Hs zs ds → AvsOk K mg Hs H σ env H0 (vs ++ zs) (avs ++ ds.map fun d => .rv (.d d))
  | _, _, _, _, .nil, r => avsD r
  | _, _, zs, ds, .cons (vs := vs) (avs := avs) a q sp, r => by
    refine .cons a (q.appD r) fun r0 e0 o0 j r' ej o' => ?_
    have ej : (avs ++ ds.map fun d => AV.rv (.d d))[j]? = some (.rv r') := ej
    show (vs ++ zs)[j]? ≠ _
    by_cases hj : j < avs.length
    · rw [List.getElem?_append_left hj] at ej
      rw [List.getElem?_append_left (by rw [q.length]; exact hj)]
      exact sp r0 e0 o0 j r' ej o'
    · rw [List.getElem?_append_right (by omega), List.getElem?_map] at ej
      obtain ⟨d, _, hd⟩ := Option.map_eq_some_iff.mp ej
      cases hd; cases o'
theorem AvsOk.aft {K : PySem.W.Frag} {mg : Str → Option Value} {Hs H H0 Hs2 H2 : Hp} {σ : L2.St} {env env2 : En} (ok : EnvOk K mg Hs H σ env) (a : Aft K mg Hs H σ env Hs2 H2 env2) (dm : ∀ b, Ft σ env b → H0 b ≠ none) : ∀ {vs : List V} {avs : List AV}, AvsOk K mg Hs H σ env H0 vs avs → AvsOk K mg Hs2 H2 σ env2 H0 vs avs
  | _, _, .nil => .nil
  | _, _, .cons h q sp => .cons (a.av h ok dm) (q.aft ok a dm) sp
theorem s_srcH {t it : Expr} {src : Src} (h1 : src.plain = true → PI X t it (tSrc X.K X.mg (denSrc nx0 src))) (h2 : mtSrc X.N X.env.scope t src it = true) : PI X t it (tSrcH X.K X.mg src.hold (denSrc nx0 src)) := by
  have imp : ∀ {src : Src}, PI X t it (tSrc X.K X.mg (denSrc nx0 src)) → PI X t it (tSrcH X.K X.mg src.hold (denSrc nx0 src)) := fun {src} q => by
    refine ⟨fun pins s σ H R I z => q.run pins s σ H R I ?_⟩
    obtain ⟨Hs, env, Kc, ok, w, z⟩ := z
    exact ⟨Hs, env, Kc, ok, w, fun xs env1 k J Hs1 H1 a wk => z xs env1 k J Hs1 H1 a wk.h⟩
  cases src with
  | slot i =>
    cases it with
    | Name x p =>
      simp only [mtSrc, Bool.and_eq_true, decide_eq_true_eq] at h2
      obtain ⟨n1, n2⟩ := nm_of h2.2.2
      exact s_srcSlot h2.1 (vis_of h2.2.1) n1 n2
    | _ => cases h2
  | _ => exact imp (h1 rfl)
theorem mtKs_len {N : List Str} {sc : Scope} : ∀ {ses : SEs} {ks : List Str} {kws : List Keyword}, mtKs N sc ses ks kws = true → ses.len = ks.length
  | .nil, [], [], _ => rfl
  | .cons e r, k :: ks, ⟨some n, v, p⟩ :: kws, h => by
    simp only [mtKs, Bool.and_eq_true] at h
    exact congrArg (· + 1) (mtKs_len h.2.2)
  | .nil, _ :: _, _, h => by simp [mtKs] at h
  | .nil, [], _ :: _, h => by simp [mtKs] at h
  | .star _ _, _, _, h => by simp [mtKs] at h
  | .cons _ _, [], _, h => by simp [mtKs] at h
  | .cons _ _, _ :: _, [], h => by simp [mtKs] at h
  | .cons _ _, _ :: _, ⟨none, _, _⟩ :: _, h => by simp [mtKs] at h
/-- {**a, **b} -/
theorem s_star2 {a b : SE} {ea eb : Expr} {pos : Pos} (ha : PE X ea (tV X.K X.mg (den2 nx0 a).v)) (hb : PE X eb (tV X.K X.mg (den2 nx0 b).v)) : PE X (.Dict [none, none] [ea, eb] pos) (tV X.K X.mg (den2 nx0 (.star2 a b)).v) := by
  refine PE_imp (pe_star2 (PE_gh ha) (PE_gh hb)) fun σ H Q h => ?_
  obtain ⟨Hs, env, Kc, ok, w, h⟩ := h
  intro p hn
  obtain ⟨a0, hs⟩ := fresh_lst (H0 := H) (o := .dK []) ok hn
  refine useD a0.ok w fun x env1 v Hs1 H1 k a1 rx => ?_
  obtain ⟨k1, rfl, hz1, k⟩ := k
  have nF : ¬ Ft σ env p := fun f => (ok.ftNone f).2 hn
  obtain ⟨hp1, hsp1⟩ := a1.t.out nF upd_same hs
  cases rx with
  | dic q1 r1 =>
    rename_i b1 od ks1
    have ne1 : p ≠ b1 := fun z => by subst z; rw [hsp1] at q1; cases q1
    refine ⟨b1, [], ks1, rfl, ne1, hp1, .inr ⟨od, a1.ok.sub _ _ q1⟩, by rw [r1.length]; simpa using hz1, ?_⟩
    have nF1 : ¬ Ft σ env1 p := fun f => nF (a1.go.sub.ft f)
    obtain ⟨ok2, t2⟩ := chg (o' := .dK (L2.mergeK [] ks1)) a1.ok hp1 hsp1 nF1
    refine useD ok2 k fun y env2 v2 Hs2 H2 k a2 ry => ?_
    obtain ⟨k2, rfl, hz2, k⟩ := k
    obtain ⟨hp2, hsp2⟩ := a2.t.out nF1 upd_same hsp1
    have r1' := rep_merge _ _ _ _ (r1.mono a2.t.same) .nil
    cases ry with
    | dic q2 r2 =>
      rename_i b2 od2 ks2
      have ne2 : p ≠ b2 := fun z => by subst z; rw [hsp2] at q2; cases q2
      have l1 : (L2.mergeK [] ks1).length ≤ k1.length := by
        have := length_mergeK ks1 []
        rw [← r1.length]; simpa using this
      refine ⟨b2, _, ks2, rfl, ne2, hp2, .inr ⟨od2, a2.ok.sub _ _ q2⟩, by rw [r2.length]; omega, ?_⟩
      have nF2 : ¬ Ft σ env2 p := fun f => nF1 (a2.go.sub.ft f)
      obtain ⟨ok3, t3⟩ := chg (o' := .dK (L2.mergeK (L2.mergeK [] ks1) ks2)) a2.ok hp2 hsp2 nF2
      have a01 := a0.trans a1
      have a02 := a01.step t2 (fun b e => .inr (by rw [e]; exact hn)) ok2 Go.refl
      have a03 := (a02.trans a2).step t3 (fun b e => .inr (by rw [e]; exact hn)) ok3 Go.refl
      exact h _ env2 k (.ref p) Hs2 _ a03 ⟨⟨p, _, rfl, upd_same, hsp2, rep_merge _ _ _ _ r2 r1'⟩, fun _ a ea => by cases ea; exact hn⟩
theorem s_starkv {a k v : SE} {ea ek ev : Expr} {pos : Pos} (ha : PE X ea (tV X.K X.mg (den2 nx0 a).v)) (hk : PE X ek (tV X.K X.mg (den2 nx0 k).v)) (hv : PE X ev (tV X.K X.mg (den2 nx0 v).v)) : PE X (.Dict [none, some ek] [ea, ev] pos) (tV X.K X.mg (den2 nx0 (.starkv a k v)).v) := by
  refine PE_imp (pe_starkv (PE_gh ha) (PE_gh hk) (PE_gh hv)) fun σ H Q h => ?_
  obtain ⟨Hs, env, Kc, ok, w, h⟩ := h
  intro p hn
  obtain ⟨a0, hs⟩ := fresh_lst (H0 := H) (o := .dK []) ok hn
  refine useD a0.ok w fun x env1 v Hs1 H1 k a1 rx => ?_
  obtain ⟨k1, rfl, hz1, k⟩ := k
  have nF : ¬ Ft σ env p := fun f => (ok.ftNone f).2 hn
  obtain ⟨hp1, hsp1⟩ := a1.t.out nF upd_same hs
  cases rx with
  | dic q1 r1 =>
    rename_i b1 od ks1
    have ne1 : p ≠ b1 := fun z => by subst z; rw [hsp1] at q1; cases q1
    refine ⟨b1, [], ks1, rfl, ne1, hp1, .inr ⟨od, a1.ok.sub _ _ q1⟩, by rw [r1.length]; show 0 + k1.length ≤ sizeLine; omega, fun q hq nq => ?_⟩
    have nF1 : ¬ Ft σ env1 p := fun f => nF (a1.go.sub.ft f)
    obtain ⟨ok2, t2⟩ := chg (o' := .dK (L2.mergeK [] ks1)) a1.ok hp1 hsp1 nF1
    obtain ⟨a3, hsq⟩ := fresh_lst (H0 := H) (o := .dK []) ok2 hq
    have nFq : ¬ Ft σ env1 q := fun f => (ok2.ftNone f).2 hq
    have hp3 : (upd (upd H1 p (.dK (L2.mergeK [] ks1))) q (.dK [])) p = some (.dK (L2.mergeK [] ks1)) := by rw [upd_ne (Ne.symm nq), upd_same]
    refine useD a3.ok k fun y env2 v2 Hs2 H2 k a4 ry => useD a4.ok k fun z env3 v3 Hs3 H3 k a5 rz => ?_
    obtain ⟨ky, hky, k⟩ := k
    have a45 := a4.trans a5
    obtain ⟨hp5, hsp5⟩ := a45.t.out nF1 hp3 hsp1
    obtain ⟨hq5, hsq5⟩ := a45.t.out nFq upd_same hsq
    have l1 : (L2.mergeK [] ks1).length ≤ k1.length := by
      have := length_mergeK ks1 []
      rw [← r1.length]; simpa using this
    refine ⟨_, ky, key_rep hky ry, hp5, hq5, by omega, ?_⟩
    have nF3 : ¬ Ft σ env3 p := fun f => nF1 (a45.go.sub.ft f)
    have nFq3 : ¬ Ft σ env3 q := fun f => nFq (a45.go.sub.ft f)
    obtain ⟨ok6, t6⟩ := chg (o' := .dK [(ky, v3)]) a5.ok hq5 hsq5 nFq3
    have hp6 : (upd H3 q (.dK [(ky, v3)])) p = some (.dK (L2.mergeK [] ks1)) := by rw [upd_ne (Ne.symm nq)]; exact hp5
    obtain ⟨ok7, t7⟩ := chg (o' := .dK (putK (L2.mergeK [] ks1) ky v3)) ok6 hp6 hsp5 nF3
    have hqn : H q = none := by
      have h1 : H1 q = none := by rw [upd_ne nq] at hq; exact hq
      have h2 := a1.t.dom q h1
      rw [upd_ne nq] at h2; exact h2
    have a01 := a0.trans a1
    have a02 := a01.step t2 (fun b e => .inr (by rw [e]; exact hn)) ok2 Go.refl
    have a03 := (a02.trans a3).trans a45
    have a06 := a03.step t6 (fun b e => .inr (by rw [e]; exact hqn)) ok6 Go.refl
    have a07 := a06.step t7 (fun b e => .inr (by rw [e]; exact hn)) ok7 Go.refl
    have r1' := rep_merge _ _ _ _ (r1.mono a45.t.same) .nil
    exact h _ env3 k (.ref p) Hs3 _ a07 ⟨⟨p, _, rfl, upd_same, hsp5, r1'.put rz⟩, fun _ a ea => by cases ea; exact hn⟩
/-! ### every expression of the text keeps its meaning -/
theorem ownP_snd (N : List Str) (own : List Nat) : (ownP N own).map (·.2) = own := by
  unfold ownP
  rw [List.map_map]
  show own.map (fun i => i) = own
  simp
theorem av2 {K : PySem.W.Frag} {mg : Str → Option Value} {Hs H H0 : Hp} {σ : L2.St} {env : En} {x y : V} {a b : D} (r : Rep K mg Hs x a) (q : Rep K mg Hs y b) : AvsOk K mg Hs H σ env H0 [x, y] [.rv (.d a), .rv (.d b)] :=
  .cons ⟨r, fun z => nomatch z⟩ (.cons ⟨q, fun z => nomatch z⟩ .nil fun r e o => by cases e; cases o) fun r e o => by cases e; cases o
mutual
theorem soundE {c : CC} : ∀ (se : SE) (X : Cx) (e : Expr), InC c X → Wf c se → mtE X.N X.env.scope se e = true → PE X e (tV X.K X.mg (den2 nx0 se).v) ∧ PT X e (tT X.K X.mg (den2 nx0 se).t)
  | .var i, X, e, ic, wf, h => by
    cases e with
    | Name x p =>
      simp only [mtE, Bool.and_eq_true, decide_eq_true_eq] at h
      obtain ⟨h1, h2, h3⟩ := h
      obtain ⟨n1, n2⟩ := nm_of h3
      have q := s_var (pos := p) h1 (vis_of h2) n1 n2
      exact ⟨q, s_tst q fun _ => rfl⟩
    | _ => cases h
  | .lit l, X, e, ic, wf, h => by
    cases e with
    | Constant k j p =>
      cases l <;> cases k <;> first
        | exact ⟨s_non, s_tst s_non fun _ => rfl⟩
        | (have e := eq_of_beq h; subst e; exact ⟨s_bl, s_tst s_bl fun _ => rfl⟩)
        | (have e := of_decide_eq_true h; subst e; exact ⟨s_int, s_tst s_int fun _ => rfl⟩)
        | (have e := of_decide_eq_true h; subst e; exact ⟨s_str, s_tst s_str fun _ => rfl⟩)
        | cases h
    | _ => cases h
  | .glo x d, X, e, ic, wf, h => by
    cases e with
    | Name y p =>
      simp only [mtE, Bool.and_eq_true, decide_eq_true_eq] at h
      obtain ⟨h1, h2, h3⟩ := h
      subst h1
      obtain ⟨n1, n2⟩ := nm_of h3
      have q := s_glo (pos := p) ic wf (gl_of h2) n1
      exact ⟨q, s_tst q fun _ => rfl⟩
    | _ => cases h
  | .prim sh dn args, X, e, ic, wf, h => by
    obtain ⟨w1, w2⟩ := wf
    have w1 := w1 X ic
    cases sh with
    | bin op =>
      cases e with
      | BinOp a op' b p =>
        simp only [mtE, Bool.and_eq_true, decide_eq_true_eq] at h
        obtain ⟨rfl, h⟩ := h
        match args, w2, h with
        | .cons x (.cons y .nil), w2, h =>
          simp only [mtAs, Bool.and_eq_true] at h
          have q : PE X (.BinOp a op b p) (tV X.K X.mg (den2 nx0 (.prim (.bin op) dn (.cons x (.cons y .nil)))).v) := PE_imp (pe_op w1 (soundE x X a ic w2.1 h.1).1 (soundE y X b ic w2.2.1 h.2.1).1) fun _ _ _ z => s_op2 (w := fun _ _ => True) (ta := tC .non) (tb := tC .non) rfl z
          exact ⟨q, s_tst q fun _ => rfl⟩
        | .nil, _, h => simp [mtAs] at h
        | .cons _ .nil, _, h => simp [mtAs] at h
        | .cons _ (.cons _ (.cons _ _)), _, h => simp [mtAs] at h
        | .cons _ (.cons _ (.star _ _)), _, h => simp [mtAs] at h
        | .cons _ (.star _ _), _, h => simp [mtAs] at h
        | .star _ _, _, h => simp [mtAs] at h
      | _ => cases h
    | cmp op =>
      cases e with
      | Compare a ops bs p =>
        match ops, bs, h with
        | [op'], [b], h =>
          simp only [mtE, Bool.and_eq_true, decide_eq_true_eq] at h
          obtain ⟨rfl, h⟩ := h
          match args, w2, h with
          | .cons x (.cons y .nil), w2, h =>
            simp only [mtAs, Bool.and_eq_true] at h
            have ha := (soundE x X a ic w2.1 h.1).1
            have hb := (soundE y X b ic w2.2.1 h.2.1).1
            have hm := ok_marks (mt_ok h.2.1) op
            refine ⟨PE_imp (pe_cmpR w1 ha hb hm) fun _ _ _ z => s_op2 (w := fun _ _ => True) (ta := tC .non) (tb := tC .non) rfl z, PT_imp (pt_cmpR w1 ha hb hm) fun σ H Q z => ?_⟩
            obtain ⟨Hs, env, Kc, ok, w, z⟩ := z
            refine s_op2 (Q := fun x H' => ∃ k, x = .bl k ∧ Q k H') (sh := .cmp op) (w := fun _ _ => True) (ta := tC .non) (tb := tC .non) rfl ⟨Hs, env, _, ok, w, fun av env1 k v Hs1 H1 a1 av1 => ?_⟩
            obtain ⟨b, rfl, k⟩ := k
            exact ⟨b, rep_bl av1.1, z b env1 k Hs1 H1 a1⟩
          | .nil, _, h => simp [mtAs] at h
          | .cons _ .nil, _, h => simp [mtAs] at h
          | .cons _ (.cons _ (.cons _ _)), _, h => simp [mtAs] at h
          | .cons _ (.cons _ (.star _ _)), _, h => simp [mtAs] at h
          | .cons _ (.star _ _), _, h => simp [mtAs] at h
          | .star _ _, _, h => simp [mtAs] at h
      | _ => cases h
    | un op =>
      cases e with
      | UnaryOp op' a p =>
        simp only [mtE, Bool.and_eq_true, decide_eq_true_eq] at h
        obtain ⟨rfl, hn, h⟩ := h
        match args, w2, h with
        | .cons x .nil, w2, h =>
          simp only [mtAs, Bool.and_eq_true] at h
          have q : PE X (.UnaryOp op a p) (tV X.K X.mg (den2 nx0 (.prim (.un op) dn (.cons x .nil))).v) := PE_imp (pe_un w1 (soundE x X a ic w2.1 h.1).1) fun _ _ _ z => s_op1 z
          exact ⟨q, s_tst q fun _ => by cases op <;> first | rfl | exact absurd rfl hn⟩
        | .nil, _, h => simp [mtAs] at h
        | .cons _ (.cons _ _), _, h => simp [mtAs] at h
        | .cons _ (.star _ _), _, h => simp [mtAs] at h
        | .star _ _, _, h => simp [mtAs] at h
      | _ => cases h
    | sub =>
      cases e with
      | Subscript a b p =>
        match args, w2, h with
        | .cons x (.cons y .nil), w2, h =>
          simp only [mtE, mtAs, Bool.and_eq_true] at h
          have q : PE X (.Subscript a b p) (tV X.K X.mg (den2 nx0 (.prim .sub dn (.cons x (.cons y .nil)))).v) := PE_imp (pe_ix w1 (soundE x X a ic w2.1 h.1).1 (soundE y X b ic w2.2.1 h.2.1).1 (ok_ix (mt_ok h.2.1))) fun _ _ _ z => s_op2 (w := fun _ _ => True) (ta := tC .non) (tb := tC .non) rfl z
          exact ⟨q, s_tst q fun _ => rfl⟩
        | .nil, _, h => simp [mtE, mtAs] at h
        | .cons _ .nil, _, h => simp [mtE, mtAs] at h
        | .cons _ (.cons _ (.cons _ _)), _, h => simp [mtE, mtAs] at h
        | .cons _ (.cons _ (.star _ _)), _, h => simp [mtE, mtAs] at h
        | .cons _ (.star _ _), _, h => simp [mtE, mtAs] at h
        | .star _ _, _, h => simp [mtE, mtAs] at h
      | _ => cases h
    | attr f =>
      cases e with
      | Attribute a f' p =>
        simp only [mtE, Bool.and_eq_true, decide_eq_true_eq] at h
        obtain ⟨rfl, hs, h⟩ := h
        match args, w2, h with
        | .cons x .nil, w2, h =>
          simp only [mtAs, Bool.and_eq_true] at h
          have q : PE X (.Attribute a f p) (tV X.K X.mg (den2 nx0 (.prim (.attr f) dn (.cons x .nil))).v) := PE_imp (w1 a _ p (fun w => nsup_of hs f X.env w) (soundE x X a ic w2.1 h.1).1) fun _ _ _ z => s_op1 z
          exact ⟨q, s_tst q fun _ => rfl⟩
        | .nil, _, h => simp [mtAs] at h
        | .cons _ (.cons _ _), _, h => simp [mtAs] at h
        | .cons _ (.star _ _), _, h => simp [mtAs] at h
        | .star _ _, _, h => simp [mtAs] at h
      | _ => cases h
    | call x =>
      cases e with
      | Call f es ks p =>
        match f, ks, h with
        | .Name y p2, [], h =>
          simp only [mtE, Bool.and_eq_true, decide_eq_true_eq] at h
          obtain ⟨rfl, hg, hne, h⟩ := h
          have hne : es ≠ [] := by
            intro z; subst z; cases hne
          have q : PE X (.Call (.Name x p2) es [] p) (tV X.K X.mg (den2 nx0 (.prim (.call x) dn args)).v) := PE_imp (w1 es _ p2 p hne (gl_of hg) (fun e he => ok_nostar (mtAs_ok h e he)) (soundA args X es ic w2 h)) fun _ _ _ z => s_opN z
          exact ⟨q, s_tst q fun _ => rfl⟩
      | _ => cases h
    | call0 x =>
      cases e with
      | Call f es ks p =>
        match f, es, ks, h with
        | .Name y p2, [], [], h =>
          simp only [mtE, Bool.and_eq_true, decide_eq_true_eq] at h
          obtain ⟨rfl, hg, h⟩ := h
          have q : PE X (.Call (.Name x p2) [] [] p) (tV X.K X.mg (den2 nx0 (.prim (.call0 x) dn args)).v) := PE_imp (w1 p2 p (gl_of hg)) fun σ H Q z => by
            cases args with
            | nil =>
              obtain ⟨Hs, env, Kc, ok, w, z⟩ := z
              exact callS ok (Aft.refl ok) .nil w fun r env2 v Hs2 H2 k a2 av2 => z _ env2 k v Hs2 H2 a2 av2
            | cons _ _ => simp [mtAs] at h
            | star _ _ => simp [mtAs] at h
          exact ⟨q, s_tst q fun _ => rfl⟩
      | _ => cases h
  | .meth ck m dn o args, X, e, ic, wf, h => by
    obtain ⟨w1, w2, w3⟩ := wf
    cases e with
    | Call f es ks p =>
      match f, ks, h with
      | .Attribute a m' ap, [], h =>
        simp only [mtE, Bool.and_eq_true, decide_eq_true_eq] at h
        obtain ⟨rfl, hs, hl, hn, ho, h⟩ := h
        have q : PE X (.Call (.Attribute a m ap) es [] p) (tV X.K X.mg (den2 nx0 (.meth ck m dn o args)).v) := PE_imp (w1 X ic a es _ _ ap p (fun w => nsup_of hs m X.env w) hl hn (fun e he => ok_nostar (mtAs_ok h e he)) (soundE o X a ic w2 ho).1 (soundA args X es ic w3 h)) fun _ _ _ z => s_opM z
        exact ⟨q, s_tst q fun _ => rfl⟩
    | _ => cases h
  | .slice dn a lo hi, X, e, ic, wf, h => by
    obtain ⟨w1, w2, w3, w4⟩ := wf
    have w1 := w1 X ic
    cases e with
    | Subscript x s p =>
      match s, h with
      | .Slice l u none p2, h =>
        simp only [mtE, Bool.and_eq_true] at h
        obtain ⟨ha, hl, hu⟩ := h
        have pa := (soundE a X x ic w2 ha).1
        obtain ⟨tl, pl, el⟩ := soundO lo X l ic w3 hl
        obtain ⟨tu, pu, eu⟩ := soundO hi X u ic w4 hu
        have q : PE X (.Subscript x (.Slice l u none p2) p) (tV X.K X.mg (den2 nx0 (.slice dn a lo hi)).v) := by
          refine PE_imp (pe_slice w1 pa pl pu) fun σ H Q z => ?_
          obtain ⟨Hs, env, Kc, ok, w, z⟩ := z
          refine ⟨Hs, env, _, ok, w, fun av env1 k v Hs1 H1 a1 av1 => el _ _ _ ⟨Hs1, env1, _, a1.ok, k, fun ls env2 k2 vs Hs2 H2 a2 rs => ?_⟩⟩
          obtain ⟨i1, k2⟩ := k2
          obtain ⟨is, e1, _⟩ := TC_int rs i1
          refine ⟨⟨is, e1⟩, fun o1 eo1 f1 => eu _ _ _ ⟨Hs2, env2, _, a2.ok, k2, fun us env3 k3 ws Hs3 H3 a3 rs3 => ?_⟩⟩
          obtain ⟨i2, k3⟩ := k3
          obtain ⟨js, e2, _⟩ := TC_int rs3 i2
          refine ⟨⟨js, e2⟩, fun o2 eo2 f2 => ⟨f1, f2, ?_⟩⟩
          have a23 := a2.trans a3
          have avs : AvsOk X.K X.mg Hs3 H3 σ env3 H (v :: (o1.toList ++ o2.toList).map V.int) (av :: (ls ++ us).map fun d => .rv (.d d)) := by
            rw [List.map_append, ← eo1, ← eo2]
            refine .cons (a23.av av1 a1.ok (a1.dm ok)) (avsD ((rs.mono a3.t.same).append rs3)) fun r er o j r' ej o' => ?_
            rw [List.getElem?_map] at ej
            obtain ⟨d, _, hd⟩ := Option.map_eq_some_iff.mp ej
            cases hd; cases o'
          exact callS ok (a1.trans a23) avs k3 fun r env4 v4 Hs4 H4 k4 a4 av4 => z _ env4 k4 v4 Hs4 H4 a4 av4
        exact ⟨q, s_tst q fun _ => rfl⟩
    | _ => cases h
  | .boolv isAnd es, X, e, ic, wf, h => by
    cases e with
    | BoolOp op vs p =>
      simp only [mtE, Bool.and_eq_true] at h
      obtain ⟨q1, q2⟩ := soundB es isAnd X vs op p ic wf h.1 h.2
      exact ⟨q1, q2.pt⟩
    | _ => cases h
  | .notv a, X, e, ic, wf, h => by
    cases e with
    | UnaryOp op x p =>
      cases op with
      | Not =>
        obtain ⟨q1, q2⟩ := soundE a X x ic wf h
        exact ⟨s_notV q1, s_notT q2⟩
      | _ => cases h
    | _ => cases h
  | .ite t a b, X, e, ic, wf, h => by
    cases e with
    | IfExp x y z p =>
      simp only [mtE, Bool.and_eq_true] at h
      have q1 := soundE t X x ic wf.1 h.1
      have q2 := soundE a X y ic wf.2.1 h.2.1
      have q3 := soundE b X z ic wf.2.2 h.2.2
      exact ⟨s_ite q1.2 q2.1 q3.1, s_iteT q1.2 q2.2 q3.2⟩
    | _ => cases h
  | .chain o1 d1 o2 d2 a b d, X, e, ic, wf, h => by
    obtain ⟨w1, w2, w3, w4, w5⟩ := wf
    have w1 := w1 X ic
    have w2 := w2 X ic
    cases e with
    | Compare x ops bs p =>
      match ops, bs, h with
      | [p1, p2], [y, z], h =>
        simp only [mtE, Bool.and_eq_true, decide_eq_true_eq] at h
        obtain ⟨rfl, rfl, h1, h2, h3⟩ := h
        have ha := (soundE a X x ic w3 h1).1
        have hb := (soundE b X y ic w4 h2).1
        have hd := (soundE d X z ic w5 h3).1
        have hm : lastMarks [o1, o2] [y, z] = false := ok_marks (mt_ok h3) o2
        refine ⟨PE_imp (pe_chain w1 w2 (PE_gh ha) (PE_gh hb) (PE_gh hd) hm) fun σ H Q q => ?_, PT_imp (pt_chain w1 w2 (PE_gh ha) (PE_gh hb) (PE_gh hd) hm) fun σ H Q q => ?_⟩
        · obtain ⟨Hs, env, Kc, ok, w, q⟩ := q
          refine useD ok w fun dx env1 vx Hs1 H1 k a1 rx => useD a1.ok k fun dy env2 vy Hs2 H2 k a2 ry => ?_
          refine callS2 ok (a1.trans a2) (av2 (rx.mono a2.t.same) ry) k fun r env3 v3 Hs3 H3 k a3 av3 sm => ?_
          obtain ⟨k', er, k⟩ := k
          cases er
          refine ⟨k', rep_bl av3.1, ?_⟩
          cases k' with
          | false => exact q _ env3 k _ Hs3 H3 a3 ⟨.bl, fun z => nomatch z⟩
          | true =>
            refine useD a3.ok k fun dz env4 vz Hs4 H4 k a4 rz => ?_
            have ry4 : Rep X.K X.mg Hs4 vy dy := (ry.mono sm).mono a4.t.same
            exact callS ok (a3.trans a4) (av2 ry4 rz) k fun r env5 v5 Hs5 H5 k a5 av5 => q _ env5 k v5 Hs5 H5 a5 av5
        · obtain ⟨Hs, env, Kc, ok, w, q⟩ := q
          refine useD ok w fun dx env1 vx Hs1 H1 k a1 rx => useD a1.ok k fun dy env2 vy Hs2 H2 k a2 ry => ?_
          refine callS2 ok (a1.trans a2) (av2 (rx.mono a2.t.same) ry) k fun r env3 v3 Hs3 H3 k a3 av3 sm => ?_
          obtain ⟨k', er, k⟩ := k
          cases er
          refine ⟨k', rep_bl av3.1, ?_⟩
          cases k' with
          | false => exact ⟨false, rfl, q _ env3 k Hs3 H3 a3⟩
          | true =>
            refine useD a3.ok k fun dz env4 vz Hs4 H4 k a4 rz => ?_
            have ry4 : Rep X.K X.mg Hs4 vy dy := (ry.mono sm).mono a4.t.same
            refine callS ok (a3.trans a4) (av2 ry4 rz) k fun r env5 v5 Hs5 H5 k a5 av5 => ?_
            obtain ⟨k2, er, k⟩ := k
            cases er
            exact ⟨k2, rep_bl av5.1, q _ env5 k Hs5 H5 a5⟩
      | [], _, h => simp [mtE] at h
      | [_], _, h => simp [mtE] at h
      | _ :: _ :: _ :: _, _, h => simp [mtE] at h
      | [_, _], [], h => simp [mtE] at h
      | [_, _], [_], h => simp [mtE] at h
      | [_, _], _ :: _ :: _ :: _, h => simp [mtE] at h
    | _ => cases h
  | .dct args, X, e, ic, wf, h => by
    cases e with
    | Dict ks vs p =>
      have q : PE X (.Dict ks vs p) (tV X.K X.mg (den2 nx0 (.dct args)).v) := by
        simp only [mtE, Bool.and_eq_true, decide_eq_true_eq] at h
        obtain ⟨hz, h⟩ := h
        by_cases h0 : ks = []
        · subst h0
          cases args with
          | nil =>
            cases vs with
            | nil => exact s_dct0
            | cons _ _ => simp [mtPs] at h
          | cons k r => cases r <;> simp [mtPs] at h
          | star _ _ => simp [mtPs] at h
        · obtain ⟨trs, pp, a, l, i⟩ := soundP args X ks vs p ic wf h
          exact s_dct pp a l h0 hz i
      exact ⟨q, s_tst q fun _ => rfl⟩
    | _ => cases h
  | .star2 a b, X, e, ic, wf, h => by
    unfold mtE at h
    split at h
    case h_2 => cases h
    case h_1 x y p =>
      simp only [Bool.and_eq_true] at h
      have q := s_star2 (pos := p) (soundE a X x ic wf.1 h.1).1 (soundE b X y ic wf.2 h.2).1
      exact ⟨q, s_tst q fun _ => rfl⟩
  | .starkv a k v, X, e, ic, wf, h => by
    unfold mtE at h
    split at h
    case h_2 => cases h
    case h_1 z x y p =>
      simp only [Bool.and_eq_true] at h
      have q := s_starkv (pos := p) (soundE a X x ic wf.1 h.1).1 (soundE k X z ic wf.2.1 h.2.1).1 (soundE v X y ic wf.2.2 h.2.2).1
      exact ⟨q, s_tst q fun _ => rfl⟩
  | .callk x dn args ks kargs, X, e, ic, wf, h => by
    obtain ⟨w1, w2, w3⟩ := wf
    unfold mtE at h
    split at h
    case h_2 => cases h
    case h_1 y py es kws p =>
      simp only [Bool.and_eq_true, decide_eq_true_eq] at h
      obtain ⟨rfl, hg, h1, h2⟩ := h
      obtain ⟨pk, hn⟩ := soundKs kargs X ks kws ic w3 h2
      have q : PE X (.Call (.Name x py) es kws p) (tV X.K X.mg (den2 nx0 (.callk x dn args ks kargs)).v) := by
        refine PE_imp (w1 X ic es kws _ _ py p (mtAs_len h1) hn (gl_of hg) (fun e he => ok_nostar (mtAs_ok h1 e he)) (soundA args X es ic w2 h1) pk) fun σ H Q z => ?_
        obtain ⟨Hs, env, Kc, ok, w, z⟩ := z
        refine ⟨Hs, env, _, ok, w, fun avs env1 k vs Hs1 H1 a1 av1 => ⟨Hs1, env1, _, a1.ok, k, fun ds env2 k2 zs Hs2 H2 a2 rs => ?_⟩⟩
        obtain ⟨l1, l2, k2⟩ := k2
        refine ⟨av1.length.trans l1, (rs.length.trans l2).trans (mtKs_len h2), ?_⟩
        have av2 := av1.aft a1.ok a2 (a1.dm ok)
        exact callS ok (a1.trans a2) (av2.appD rs) k2 fun r env4 v4 Hs4 H4 k4 a4 av4 => z _ env4 k4 v4 Hs4 H4 a4 av4
      exact ⟨q, s_tst q fun _ => rfl⟩
  | .frzv a, X, e, ic, wf, h => by
    simp only [mtE, Bool.and_eq_true] at h
    have q : PE X e (tV X.K X.mg (den2 nx0 (.frzv a)).v) := by
      refine PE_imp (PE_gh (soundE a X e ic wf h.2.2).1) fun σ H Q z => ?_
      obtain ⟨Hs, env, Kc, ok, w, z⟩ := z
      exact useD ok w fun d env1 v Hs1 H1 k a1 r => z _ env1 k v Hs1 H1 a1 ⟨r, fun z => nomatch z⟩
    exact ⟨q, ⟨fun _ _ _ _ _ _ z => let ⟨_, _, _, _, w, _⟩ := z; w.elim⟩⟩
  | .callss x dn a, X, e, ic, wf, h => by
    obtain ⟨w1, w2⟩ := wf
    unfold mtE at h
    split at h
    case h_2 => cases h
    case h_1 y py v pk p =>
      simp only [Bool.and_eq_true, decide_eq_true_eq] at h
      obtain ⟨rfl, hg, h1⟩ := h
      have q : PE X (.Call (.Name x py) [] [⟨none, v, pk⟩] p) (tV X.K X.mg (den2 nx0 (.callss x dn a)).v) := by
        refine PE_imp (w1 X ic v _ py pk p (gl_of hg) (PE_gh (soundE a X v ic w2 h1).1)) fun σ H Q z => ?_
        obtain ⟨Hs, env, Kc, ok, w, z⟩ := z
        refine useD ok w fun d env1 u Hs1 H1 k a1 r => ?_
        exact callS ok a1 (avsD (.cons r .nil)) k fun r env4 v4 Hs4 H4 k4 a4 av4 => z _ env4 k4 v4 Hs4 H4 a4 av4
      exact ⟨q, s_tst q fun _ => rfl⟩
  | .lst es, X, e, ic, wf, h => by
    cases e with
    | List xs p =>
      have q := s_lst (pos := p) (soundDs es X xs ic wf h)
      exact ⟨q, s_tst q fun _ => rfl⟩
    | _ => cases h
  | .tup es, X, e, ic, wf, h => by
    cases e with
    | Tuple xs k p =>
      have q := s_tup (pos := p) (x1 := k) (soundDs es X xs ic wf h)
      exact ⟨q, s_tst q fun _ => rfl⟩
    | _ => cases h
  | .lc own tg src cond elt, X, e, ic, wf, h => by
    obtain ⟨w1, w2, w3⟩ := wf
    cases e with
    | ListComp x gs scope p =>
      match gs, h with
      | [⟨t, it, ifs, asy⟩], h =>
        simp only [mtE, Bool.and_eq_true, decide_eq_true_eq, beq_iff_eq] at h
        obtain ⟨rfl, hb, hs, hsrc, ht, hc, he⟩ := h
        have q : PE X (.ListComp x [⟨t, it, ifs, 0⟩] scope p) (tV X.K X.mg (den2 nx0 (.lc own tg src cond elt)).v) :=
          PE_imp (pe_lc ic.calm ic.nd (s_srcH (fun hp => soundSrc src X t it hp ic w1 hsrc) hsrc) (blkOk_by hb) (fun s H C cl fp => s_tg (X := X.blk s H scope (compEnvC scope cl C X.env) fp) ic.calm ic.nd (fun _ z => z) ht)
            (fun s H C cl fp => soundC cond _ ifs (ic.blk ..) w2 hc) (fun s H C cl fp => PE_gh (soundE elt _ x (ic.blk ..) w3 he).1) (fun y => ok_fold (mtSrc_ok hsrc) X.env y)) fun σ H Q z => by
              rw [ownP_snd]
              exact lc_read hs z
        exact ⟨q, s_tst q fun _ => rfl⟩
      | [], h => simp [mtE] at h
      | _ :: _ :: _, h => simp [mtE] at h
    | _ => cases h
  | .lc2 own own1 tg src cond tg1 src1 cond1 elt, X, e, ic, wf, h => by
    obtain ⟨w1, w2, w3, w4, w5⟩ := wf
    cases e with
    | ListComp x gs scope p =>
      match gs, h with
      | [⟨t, it, ifs, asy⟩, ⟨t1, it1, ifs1, asy1⟩], h =>
        simp only [mtE, Bool.and_eq_true, decide_eq_true_eq, beq_iff_eq] at h
        obtain ⟨rfl, hp, hp1, rfl, hb, hs, hs1, hss, hsrc, ht, hc, hsrc1, ht1, hc1, he⟩ := h
        have q : PE X (.ListComp x [⟨t, it, ifs, 0⟩, ⟨t1, it1, ifs1, 0⟩] scope p) (tV X.K X.mg (den2 nx0 (.lc2 own own1 tg src cond tg1 src1 cond1 elt)).v) :=
          PE_imp (pe_lc2 (vs1 := own1) ic.calm ic.nd (soundSrc src X t it hp ic w1 hsrc) (blkOk_by hb) (by rw [ownP_snd]; exact hss) (fun s H C cl fp => s_tg (X := X.blk s H scope (compEnvC scope cl C X.env) fp) ic.calm ic.nd (fun _ z => z) ht)
            (fun s H C cl fp => soundC cond _ ifs (ic.blk ..) w2 hc) (fun s H C cl fp => soundSrc src1 _ t1 it1 hp1 (ic.blk ..) w3 hsrc1) (fun s H C cl fp => s_tg (X := X.blk s H scope (compEnvC scope cl C X.env) fp) ic.calm ic.nd (fun _ z => z) ht1)
            (fun s H C cl fp => soundC cond1 _ ifs1 (ic.blk ..) w4 hc1) (fun s H C cl fp => PE_gh (soundE elt _ x (ic.blk ..) w5 he).1) (fun y => ok_fold (mtSrc_ok hsrc) X.env y) (fun env y => ok_fold (mtSrc_ok hsrc1) env y)) fun σ H Q z => by
              rw [ownP_snd]
              exact lc2_read hs hs1 z
        exact ⟨q, s_tst q fun _ => rfl⟩
      | [], h => simp [mtE] at h
      | [_], h => simp [mtE] at h
      | _ :: _ :: _ :: _, h => simp [mtE] at h
    | _ => cases h
  | .dc own tg src cond k v, X, e, ic, wf, h => by
    obtain ⟨w1, w2, w3, w4⟩ := wf
    cases e with
    | DictComp x y gs scope p =>
      match gs, h with
      | [⟨t, it, ifs, asy⟩], h =>
        simp only [mtE, Bool.and_eq_true, decide_eq_true_eq, beq_iff_eq] at h
        obtain ⟨rfl, hp, hb, hs, hsrc, ht, hc, hk, hv⟩ := h
        have q : PE X (.DictComp x y [⟨t, it, ifs, 0⟩] scope p) (tV X.K X.mg (den2 nx0 (.dc own tg src cond k v)).v) :=
          PE_imp (pe_dc ic.calm ic.nd (soundSrc src X t it hp ic w1 hsrc) (blkOk_by hb) (fun s H C cl fp => s_tg (X := X.blk s H scope (compEnvC scope cl C X.env) fp) ic.calm ic.nd (fun _ z => z) ht)
            (fun s H C cl fp => soundC cond _ ifs (ic.blk ..) w2 hc) (fun s H C cl fp => PE_gh (soundE k _ x (ic.blk ..) w3 hk).1) (fun s H C cl fp => PE_gh (soundE v _ y (ic.blk ..) w4 hv).1) (fun y => ok_fold (mtSrc_ok hsrc) X.env y)) fun σ H Q z => by
              rw [ownP_snd]
              exact dc_read hs z
        exact ⟨q, s_tst q fun _ => rfl⟩
      | [], h => simp [mtE] at h
      | _ :: _ :: _, h => simp [mtE] at h
    | _ => cases h
theorem soundA {c : CC} : ∀ (ses : SEs) (X : Cx) (es : List Expr), InC c X → WfA c ses → mtAs X.N X.env.scope ses es = true → PA X es (tL X.K X.mg (denA nx0 ses))
  | .nil, X, es, ic, wf, h => by
    cases es with
    | nil => exact PA_imp pa_nil fun _ _ _ z => tL_nil nx0 z
    | cons _ _ => cases h
  | .cons e r, X, es, ic, wf, h => by
    cases es with
    | nil => cases h
    | cons x xs =>
      simp only [mtAs, Bool.and_eq_true] at h
      exact PA_imp (pa_cons (soundE e X x ic wf.1 h.1).1 (soundA r X xs ic wf.2 h.2) (ok_star (mt_ok h.1) xs X.env)) fun _ _ _ z => tL_cons z
  | .star _ _, X, es, ic, wf, h => by simp [mtAs] at h
theorem soundDs {c : CC} : ∀ (ses : SEs) (X : Cx) (es : List Expr), InC c X → WfA c ses → mtDs X.N X.env.scope ses es = true → PA X es (tK X.K X.mg (denDs nx0 ses))
  | .nil, X, es, ic, wf, h => by
    cases es with
    | nil => exact PA_imp pa_nil fun _ _ _ z => tK_nil nx0 z
    | cons _ _ => cases h
  | .cons e r, X, es, ic, wf, h => by
    cases es with
    | nil => cases h
    | cons x xs =>
      simp only [mtDs, Bool.and_eq_true] at h
      exact PA_imp (pa_cons (PE_gh (soundE e X x ic wf.1 h.1).1) (soundDs r X xs ic wf.2 h.2) (ok_star (mt_ok h.1) xs X.env)) fun _ _ _ z => tK_cons z
  | .star e r, X, es, ic, wf, h => by
    match es, h with
    | .Starred x p :: xs, h =>
      simp only [mtDs, Bool.and_eq_true] at h
      exact PA_imp (StX.pa_star (PE_gh (soundE e X x ic wf.1 h.1).1) (soundDs r X xs ic wf.2 h.2) rfl) fun _ _ _ z => tK_star z
theorem soundP {c : CC} : ∀ (ses : SEs) (X : Cx) (keys : List (Option Expr)) (values : List Expr) (pos : Pos), InC c X → WfA c ses → mtPs X.N X.env.scope ses keys values = true →
    ∃ trs, PPs X pos keys values trs ∧ keys.all (·.isSome) = true ∧ keys.length = values.length ∧ ∀ σ H (Q : List (V × V) → Hp → Prop), tK X.K X.mg (denDs nx0 ses) σ H (fun vs H1 => Q (unflat vs) H1) → tPairs trs σ H Q
  | .nil, X, keys, values, pos, ic, wf, h => by
    match keys, values, h with
    | [], [], _ => exact ⟨[], pps_nil, rfl, rfl, fun σ H Q z => tK_nil nx0 z⟩
  | .cons k (.cons v r), X, keys, values, pos, ic, wf, h => by
    match keys, values, h with
    | some x :: ks, y :: vs, h =>
      simp only [mtPs, Bool.and_eq_true] at h
      obtain ⟨h1, h2, h3⟩ := h
      obtain ⟨trs, p, a, l, i⟩ := soundP r X ks vs pos ic wf.2.2 h3
      refine ⟨_, pps_cons (PE_gh (soundE k X x ic wf.1 h1).1) (PE_gh (soundE v X y ic wf.2.1 h2).1) p, by simpa using a, by simpa using l, fun σ H Q z => ?_⟩
      exact gh_mono (tK_cons z) fun x1 H1 z1 => gh_mono (tK_cons z1) fun y1 H2 z2 => i _ _ _ z2
  | .cons _ .nil, X, keys, values, pos, ic, wf, h => by simp [mtPs] at h
  | .cons _ (.star _ _), X, keys, values, pos, ic, wf, h => by simp [mtPs] at h
  | .star _ _, X, keys, values, pos, ic, wf, h => by simp [mtPs] at h
theorem soundO {c : CC} : ∀ (ses : SEs) (X : Cx) (o : Option Expr), InC c X → WfA c ses → mtO X.N X.env.scope ses o = true →
    ∃ tl : TO, PO X o tl ∧ ∀ σ H (Q : Option Int → Hp → Prop), (tK X.K X.mg (denDs nx0 ses) σ H fun vs H1 => (∃ is : List Int, vs = is.map V.int) ∧ ∀ o : Option Int, vs = o.toList.map V.int → o.isSome = (match ses with | .nil => false | _ => true) → Q o H1) → tl σ H Q
  | .nil, X, o, ic, wf, h => by
    cases o with
    | none => exact ⟨_, po_none, fun σ H Q z => (tK_nil nx0 z).2 none rfl rfl⟩
    | some _ => cases h
  | .cons e .nil, X, o, ic, wf, h => by
    cases o with
    | none => cases h
    | some x =>
      refine ⟨_, po_some (PE_gh (soundE e X x ic wf.1 h).1), fun σ H Q z => ?_⟩
      have z1 := tK_cons z
      obtain ⟨Hs, env, Kc, ok, w, z1⟩ := z1
      refine ⟨Hs, env, Kc, ok, w, fun av env1 k v Hs1 H1 a1 av1 => ?_⟩
      refine (z1 av env1 k v Hs1 H1 a1 av1).imp fun H2 zz => ?_
      obtain ⟨⟨is, e1⟩, z2⟩ := tK_nil nx0 zz
      match is, e1 with
      | [i], e1 =>
        have e1 : v = .int i := by simpa using e1
        subst e1
        exact ⟨i, rfl, z2 (some i) rfl rfl⟩
      | [], e1 => simp at e1
      | _ :: _ :: _, e1 => simp at e1
  | .cons _ (.cons _ _), X, o, ic, wf, h => by cases o <;> simp [mtO] at h
  | .cons _ (.star _ _), X, o, ic, wf, h => by cases o <;> simp [mtO] at h
  | .star _ _, X, o, ic, wf, h => by cases o <;> simp [mtO] at h
theorem soundB {c : CC} : ∀ (ses : SEs) (isAnd : Bool) (X : Cx) (es : List Expr) (op : BoolOp) (p : Pos), InC c X → WfA c ses → isOp isAnd op = true → mtAs X.N X.env.scope ses es = true →
    PE X (.BoolOp op es p) (tV X.K X.mg (denBV nx0 isAnd ses)) ∧ PW X (.BoolOp op es p) (tT X.K X.mg (denBT nx0 isAnd ses))
  | .nil, isAnd, X, es, op, p, ic, wf, ho, h =>
    ⟨⟨fun _ _ _ _ _ _ z => let ⟨_, _, _, _, w, _⟩ := z; False.elim w⟩, ⟨fun _ _ _ _ _ _ _ z => let ⟨_, _, _, _, w, _⟩ := z; False.elim w⟩⟩
  | .star _ _, isAnd, X, es, op, p, ic, wf, ho, h =>
    ⟨⟨fun _ _ _ _ _ _ z => let ⟨_, _, _, _, w, _⟩ := z; False.elim w⟩, ⟨fun _ _ _ _ _ _ _ z => let ⟨_, _, _, _, w, _⟩ := z; False.elim w⟩⟩
  | .cons e .nil, isAnd, X, es, op, p, ic, wf, ho, h => by
    match es, h with
    | [x], h =>
      simp only [mtAs, Bool.and_eq_true] at h
      obtain ⟨q1, q2⟩ := soundE e X x ic wf.1 h.1
      refine ⟨pe_one q1, ?_⟩
      cases op with
      | And => exact pw_and1 q2
      | Or => exact pw_or1 q2
    | [], h => simp [mtAs] at h
    | _ :: _ :: _, h => simp [mtAs] at h
  | .cons e (.cons e2 r), isAnd, X, es, op, p, ic, wf, ho, h => by
    match es, h with
    | x :: y :: zs, h =>
      simp only [mtAs, Bool.and_eq_true] at h
      obtain ⟨q1, q2⟩ := soundE e X x ic wf.1 h.1
      obtain ⟨r1, r2⟩ := soundB (.cons e2 r) isAnd X (y :: zs) op p ic wf.2 ho (by simp only [mtAs, Bool.and_eq_true]; exact h.2)
      cases isAnd <;> cases op <;> first | cases ho | skip
      · refine ⟨PE_imp (pe_or q1 r1) fun σ H Q z => ?_, PW_imp (pw_or q2 r2) fun σ H Q z => ?_⟩
        · obtain ⟨Hs, env, Kc, ok, w, z⟩ := z
          refine ⟨Hs, env, _, ok, w, fun av env1 k v Hs1 H1 a1 av1 => ?_⟩
          obtain ⟨b, rfl, k⟩ := k
          refine ⟨b, rep_bl av1.1, ?_⟩
          cases b with
          | true => exact z _ env1 k _ Hs1 H1 a1 ⟨.bl, fun z => nomatch z⟩
          | false => exact ⟨Hs1, env1, Kc, a1.ok, k, fun av env2 k v Hs2 H2 a2 av2 => z av env2 k v Hs2 H2 (a1.trans a2) (av2.base a1.t.dom)⟩
        · obtain ⟨Hs, env, Kc, ok, w, z⟩ := z
          refine ⟨Hs, env, _, ok, w, fun b env1 k Hs1 H1 a1 => ?_⟩
          cases b with
          | true => exact z _ env1 k Hs1 H1 a1
          | false => exact ⟨Hs1, env1, Kc, a1.ok, k, fun av env2 k Hs2 H2 a2 => z av env2 k Hs2 H2 (a1.trans a2)⟩
      · refine ⟨PE_imp (pe_and q1 r1) fun σ H Q z => ?_, PW_imp (pw_and q2 r2) fun σ H Q z => ?_⟩
        · obtain ⟨Hs, env, Kc, ok, w, z⟩ := z
          refine ⟨Hs, env, _, ok, w, fun av env1 k v Hs1 H1 a1 av1 => ?_⟩
          obtain ⟨b, rfl, k⟩ := k
          refine ⟨b, rep_bl av1.1, ?_⟩
          cases b with
          | false => exact z _ env1 k _ Hs1 H1 a1 ⟨.bl, fun z => nomatch z⟩
          | true => exact ⟨Hs1, env1, Kc, a1.ok, k, fun av env2 k v Hs2 H2 a2 av2 => z av env2 k v Hs2 H2 (a1.trans a2) (av2.base a1.t.dom)⟩
        · obtain ⟨Hs, env, Kc, ok, w, z⟩ := z
          refine ⟨Hs, env, _, ok, w, fun b env1 k Hs1 H1 a1 => ?_⟩
          cases b with
          | false => exact z _ env1 k Hs1 H1 a1
          | true => exact ⟨Hs1, env1, Kc, a1.ok, k, fun av env2 k Hs2 H2 a2 => z av env2 k Hs2 H2 (a1.trans a2)⟩
    | [], h => simp [mtAs] at h
    | [_], h => simp [mtAs] at h
  | .cons e (.star _ _), isAnd, X, es, op, p, ic, wf, ho, h => by
    match es, h with
    | x :: xs, h => simp [mtAs] at h
    | [], h => simp [mtAs] at h
theorem soundC {c : CC} : ∀ (ses : SEs) (X : Cx) (es : List Expr), InC c X → WfA c ses → mtC X.N X.env.scope ses es = true → PTs X es (tT X.K X.mg (denC nx0 ses))
  | .nil, X, es, ic, wf, h => by
    cases es with
    | nil => exact PTs_imp pts_nil fun σ H Q z => let ⟨Hs, env, Kc, ok, w, z⟩ := z; z true env w Hs H (Aft.refl ok)
    | cons _ _ => cases h
  | .cons e .nil, X, es, ic, wf, h => by
    match es, h with
    | [x], h => exact pts_one (soundE e X x ic wf.1 h).2
    | [], h => simp [mtC] at h
    | _ :: _ :: _, h => simp [mtC] at h
  | .cons _ (.cons _ _), X, es, ic, wf, h => by simp [mtC] at h
  | .cons _ (.star _ _), X, es, ic, wf, h => by simp [mtC] at h
  | .star _ _, X, es, ic, wf, h => by simp [mtC] at h
theorem soundKs {c : CC} : ∀ (ses : SEs) (X : Cx) (ks : List Str) (kws : List Keyword), InC c X → WfA c ses → mtKs X.N X.env.scope ses ks kws = true → PK X kws (tK X.K X.mg (denDs nx0 ses)) ∧ kws.map (·.arg) = ks.map some
  | .nil, X, ks, kws, ic, wf, h => by
    match ks, kws, h with
    | [], [], _ => exact ⟨PK_imp pk_nil fun _ _ _ z => tK_nil nx0 z, rfl⟩
  | .cons e r, X, ks, kws, ic, wf, h => by
    match ks, kws, h with
    | k :: ks, ⟨some n, v, kp⟩ :: kws, h =>
      simp only [mtKs, Bool.and_eq_true, decide_eq_true_eq] at h
      obtain ⟨rfl, h1, h2⟩ := h
      obtain ⟨q1, q2⟩ := soundKs r X ks kws ic wf.2 h2
      exact ⟨PK_imp (pk_cons (PE_gh (soundE e X v ic wf.1 h1).1) q1) fun _ _ _ z => tK_cons z, by rw [List.map_cons, List.map_cons, q2]⟩
  | .star _ _, X, ks, kws, ic, wf, h => by cases ks <;> cases kws <;> simp [mtKs] at h
theorem soundSrc {c : CC} : ∀ (src : Src) (X : Cx) (t it : Expr), src.plain = true → InC c X → WfS c src → mtSrc X.N X.env.scope t src it = true → PI X t it (tSrc X.K X.mg (denSrc nx0 src))
  | .slot _, X, t, it, hp, ic, wf, h => by cases hp
  | .val e, X, t, it, _, ic, wf, h => s_srcVal (soundE e X it ic wf h).1
  | .rng1 e, X, t, it, _, ic, wf, h => by
    match it, h with
    | .Call (.Name f p) [a] [] p2, h =>
      simp only [mtSrc, Bool.and_eq_true, decide_eq_true_eq] at h
      obtain ⟨rfl, hg, h⟩ := h
      exact s_rng1 (gl_of hg) (by rw [ic.mg]; exact wf.1) (soundE e X a ic wf.2 h).1 (by rw [ok_star (mt_ok h)]; rfl)
  | .rng2 d e, X, t, it, _, ic, wf, h => by
    match it, h with
    | .Call (.Name f p) [a, b] [] p2, h =>
      simp only [mtSrc, Bool.and_eq_true, decide_eq_true_eq] at h
      obtain ⟨rfl, hg, h1, h2⟩ := h
      exact s_rng2 (gl_of hg) (by rw [ic.mg]; exact wf.1) (soundE d X a ic wf.2.1 h1).1 (soundE e X b ic wf.2.2 h2).1 (by rw [ok_star (mt_ok h1), ok_star (mt_ok h2)]; rfl) (by rw [ok_star (mt_ok h2)]; rfl)
  | .enm e, X, t, it, _, ic, wf, h => by
    match it, h with
    | .Call (.Name f p) [a] [] p2, h =>
      simp only [mtSrc, Bool.and_eq_true, decide_eq_true_eq] at h
      obtain ⟨rfl, hg, ht, h4⟩ := h
      cases t with
      | Tuple es k tp => exact s_enum (gl_of hg) (by rw [ic.mg]; exact wf.1) (soundE e X a ic wf.2 h4).1 (by rw [ok_star (mt_ok h4)]; rfl)
      | _ => cases ht
  | .items e, X, t, it, _, ic, wf, h => by
    match it, h with
    | .Call (.Attribute a m ap) [] [] p2, h =>
      simp only [mtSrc, Bool.and_eq_true, decide_eq_true_eq] at h
      obtain ⟨rfl, hs, hl, ht, h4⟩ := h
      cases t with
      | Tuple es k tp => exact s_items (soundE e X a ic wf h4).1 (fun w => nsup_of hs _ X.env w) hl
      | _ => cases ht
end
end
end Mp
namespace Mp
open PySem PySem.Spec PyProof.Rows L2
section
variable {X : Cx}
/-- name = {..} on one line, the name a local -/
theorem ps_setDc {i : Nat} {y : Str} {py : Pos} {kx vx tg iter : Expr} {ifs : List Expr} {scope : Scope} {own : List (Str × Nat)} {pos spos : Pos} {wi : TI} {g : TG} {tt : TT} {tk tv : TE} (hc : X.calm = true) (hN : X.N.Nodup) (hy : X.N[i]? = some y) (hyl : X.env.scope.names.lookup y = some .local)
    (hsw : swapsWith (.DictComp kx vx [⟨tg, iter, ifs, 0⟩] scope pos) (some (.Name y py)) spos.line X.env = pure true) (hi : PI X tg iter wi) (ok : BlkOk X.N X.env.scope scope own)
    (hg : ∀ (s : Shared) (H : Hp) (C : Addr) (cl : List (Str × Addr)) (fp : List Addr), PG (X.blk s H scope (compEnvC scope cl C X.env) fp) tg g) (ht : ∀ (s : Shared) (H : Hp) (C : Addr) (cl : List (Str × Addr)) (fp : List Addr), PTs (X.blk s H scope (compEnvC scope cl C X.env) fp) ifs tt)
    (hk : ∀ (s : Shared) (H : Hp) (C : Addr) (cl : List (Str × Addr)) (fp : List Addr), PE (X.blk s H scope (compEnvC scope cl C X.env) fp) kx tk)
    (he : ∀ (s : Shared) (H : Hp) (C : Addr) (cl : List (Str × Addr)) (fp : List Addr), PE (X.blk s H scope (compEnvC scope cl C X.env) fp) vx tv) (hs : ∀ x, foldedSetIterable iter X.env x = pure x) :
    PS X (.Assign [.Name y py] (.DictComp kx vx [⟨tg, iter, ifs, 0⟩] scope pos) spos) (tAsg (tDc wi g tt tk tv (own.map (·.2))) (gName i)) := by
  refine ⟨fun pins s σ H D I h => ?_⟩
  rw [exec_Assign_Name_used _ _ _ _ hsw]
  refine wpAny_bind (wpAny_standAt (wpAny_bind ?_))
  show wpAny _ X.A (do let _ ← comprehension (.DictComp kx vx [⟨tg, iter, ifs, 0⟩] scope pos) scope X.env (firstIterPos [⟨tg, iter, ifs, 0⟩] pos) newDict false (eval iter X.env) (some (assign (.Name y py) X.env))) _ _ s
  have h : tDc wi g tt tk tv (own.map (·.2)) σ H (fun x H1 => gName i x σ H1 D.nx) := h
  refine wpAny_bind (thn (dc_core (Qf := fun _ s' => SP X pins D .next s') hc hN I hi ok hg ht hk he hs h fun L C s' m H' I' q hn f => ?_) fun _ s' hq => wpAny_pure (wpAny_pure hq))
  show wpAny _ _ (assign (.Name y py) X.env (.ref L)) _ _ _
  refine wpAny_assign_Name (store_ok2 (v := V.ref L) I' hN hy (.inl hyl) rfl (fun s2 I2 ⟨a, sb, ha⟩ => ?_) (.inr hyl))
  obtain ⟨f0, f1, f2, f3, f4, f5⟩ := f
  have haC : C ≠ a := by
    rcases ha with z | z
    · rw [z]; exact f1
    · exact fun e => f4 y a z e.symm
  refine ⟨m, hn.sameBut sb haC, fun h3 sb3 => ?_⟩
  exact ⟨_, H', I2.turned (t' := s2.toks) (fun b o hb e => (sb3.2 b hb).trans e) f0 f1 f3 f4 f5, q⟩
end
def swTrue (sc : Scope) (scope : Scope) (y : Str) (py pos : Pos) : Bool := (match sc.kind with | .function => true | _ => false) && ((match sc.names.lookup y with | some .local => true | _ => false) && (py.line == pos.line && !(scope.names.any fun (n, k) => n == y && (k == .local || k == .cell))))
def swFalse (sc : Scope) (y : Str) : Bool := match sc.names.lookup y with | some .local => false | _ => true
/-- a value's road into a name: no comprehension, or one that is stored at once, or not -/
def swOk (sc : Scope) (y : Str) (py : Pos) : Expr → Bool
  | .ListComp _ _ scope pos => swTrue sc scope y py pos || swFalse sc y
  | .DictComp _ _ _ scope pos => swTrue sc scope y py pos || swFalse sc y
  | .SetComp _ _ _ _ => false
  | _ => true
theorem noSwap {e : Expr} (h : noComp e = true) (t : Option Expr) (l : Nat) (env : PySem.Env) : swapsWith e t l env = pure false := by
  cases e <;> first | rfl | cases h
theorem swSub {v o i : Expr} {p : Pos} {l : Nat} {env : PySem.Env} : swapsWith v (some (.Subscript o i p)) l env = pure false := by cases v <;> rfl
theorem swAttr {v o : Expr} {f : Str} {p : Pos} {l : Nat} {env : PySem.Env} : swapsWith v (some (.Attribute o f p)) l env = pure false := by cases v <;> rfl
theorem swT {sc : Scope} {scope : Scope} {y : Str} {py pos : Pos} {l : Nat} {env : PySem.Env} {e : Expr} (he : (∃ x g, e = .ListComp x g scope pos) ∨ ∃ x z g, e = .DictComp x z g scope pos) (hs : env.scope = sc) (h : swTrue sc scope y py pos = true) : swapsWith e (some (.Name y py)) l env = pure true := by
  subst hs
  unfold swTrue at h
  simp only [Bool.and_eq_true, Bool.not_eq_true'] at h
  obtain ⟨h1, h2, h3, h4⟩ := h
  have k1 : env.scope.kind = .function := by
    cases q : env.scope.kind <;> rw [q] at h1 <;> first | rfl | cases h1
  have k2 : env.kindOf y = some .local := by
    show env.scope.names.lookup y = some .local
    cases q : env.scope.names.lookup y with
    | none => rw [q] at h2; cases h2
    | some z => rw [q] at h2; cases z <;> first | rfl | cases h2
  have hb : env.blockKind = .function := by unfold Env.blockKind; rw [k1]; rfl
  rcases he with ⟨x, g, rfl⟩ | ⟨x, z, g, rfl⟩
  · unfold swapsWith
    simp only [hb, k2, h4, Expr.pos, h3]
    rfl
  · unfold swapsWith
    simp only [hb, k2, h4, Expr.pos, h3]
    rfl
theorem swF {sc : Scope} {scope : Scope} {y : Str} {py pos : Pos} {l : Nat} {env : PySem.Env} {e : Expr} (he : (∃ x g, e = .ListComp x g scope pos) ∨ ∃ x z g, e = .DictComp x z g scope pos) (hs : env.scope = sc) (h : swFalse sc y = true) : swapsWith e (some (.Name y py)) l env = pure false := by
  subst hs
  have k2 : (env.kindOf y == some .local) = false := by
    show (env.scope.names.lookup y == some .local) = false
    unfold swFalse at h
    cases q : env.scope.names.lookup y with
    | none => rfl
    | some z => rw [q] at h; cases z <;> first | rfl | cases h
  rcases he with ⟨x, g, rfl⟩ | ⟨x, z, g, rfl⟩
  · unfold swapsWith
    simp only [k2, Bool.and_false, Bool.false_and]
  · unfold swapsWith
    simp only [k2, Bool.and_false, Bool.false_and]
def envD (sc : Scope) : PySem.Env := { scope := sc, locals := 0, globals := 0, cells := [] }
def anyFn : Str → Bool := fun _ => true
def isTup : Expr → Bool
  | .Tuple _ _ _ => true
  | _ => false
def locals (sc : Scope) : List Expr → Option (List Str)
  | [] => some []
  | .Name x _ :: es => (match sc.names.lookup x with
    | some .local => (locals sc es).map (x :: ·)
    | _ => none)
  | _ => none
mutual
def mtS (N : List Str) (sc : Scope) : SS → Stmt → Bool
  | .expr e, s => match s with
    | .Expr v _ => noComp v && mtE N sc e v
    | _ => false
  | .assign i e, s => match s with
    | .Assign [.Name x px] v _ => decide (N[i]? = some x) && (loB sc anyFn x && (swOk sc x px v && mtE N sc e v))
    | _ => false
  | .assignT l e, s => match s with
    | .Assign [.Tuple es _ _] v _ => mtNames N sc anyFn l es && (noComp v && (!isTup v && mtE N sc e v))
    | _ => false
  | .par sw l ses, s => match s with
    | .Assign [.Tuple ts _ _] (.Tuple vs _ _) _ => mtNames N sc anyFn l ts && (mtDs N sc ses vs && (decide l.Nodup && (decide (l.length ≤ 40) && (if sw then decide ((l.length = 2 ∨ l.length = 3) ∧ vs.length = l.length ∧ (locals sc ts).isSome = true ∧ swp (envD sc) ts vs = some (locals sc ts)) else decide (swp (envD sc) ts vs = some none)))))
    | _ => false
  | .parO sw l ses, s => match s with
    | .Assign [.Tuple ts _ _] (.Tuple vs _ _) _ => mtNames N sc anyFn l ts && (mtAs N sc ses vs && (decide l.Nodup && (decide (l.length ≤ 40) && (if sw then decide ((l.length = 2 ∨ l.length = 3) ∧ vs.length = l.length ∧ (locals sc ts).isSome = true ∧ swp (envD sc) ts vs = some (locals sc ts)) else decide (swp (envD sc) ts vs = some none)))))
    | _ => false
  | .setattr _ i f e, s => match s with
    | .Assign [.Attribute (.Name x _) f' _] v _ => decide (N[i]? = some x) && (visB sc x && (nmB x && (decide (f = f') && mtE N sc e v)))
    | _ => false
  | .setsub i ix e, s => match s with
    | .Assign [.Subscript (.Name x _) j _] v _ => decide (N[i]? = some x) && (visB sc x && (nmB x && (mtE N sc ix j && mtE N sc e v)))
    | _ => false
  | .aug i op _ e, s => match s with
    | .AugAssign (.Name x _) op' v _ => decide (N[i]? = some x) && (loB sc anyFn x && (decide (op = op') && mtE N sc e v))
    | _ => false
  | .ret e, s => match s with
    | .Return (some v) _ => mtE N sc e v
    | _ => false
  | .retN, s => match s with
    | .Return none _ => true
    | _ => false
  | .ifs t a b, s => match s with
    | .If c p q _ => mtE N sc t c && (mtSs N sc a p && mtSs N sc b q)
    | _ => false
  | .for_ tg src body, s => match s with
    | .For t it b [] _ => mtSrc N sc t src it && (mtT N sc anyFn tg t && (mtSs N sc body b && src.plain))
    | _ => false
  | .while_ t body, s => match s with
    | .While c b [] _ => mtE N sc t c && mtSs N sc body b
    | _ => false
  | .pass, s => match s with
    | .Pass _ => true
    | _ => false
  | .brk, s => match s with
    | .Break _ => true
    | _ => false
  | .cont, s => match s with
    | .Continue _ => true
    | _ => false
  | .never, _ => true
def mtSs (N : List Str) (sc : Scope) : SSs → List Stmt → Bool
  | .nil, l => match l with
    | [] => true
    | _ => false
  | .cons s r, l => match l with
    | x :: xs => mtS N sc s x && mtSs N sc r xs
    | [] => false
end
def AugOk (c : CC) (op : Operator) (dn : Den) : Prop := ∀ X, InC c X → PIp X op fun x y H Q => spD X.K X.mg dn [x, y] H Q E0
mutual
def WfT (c : CC) : SS → Prop
  | .expr e => Wf c e
  | .assign _ e => Wf c e
  | .assignT _ e => Wf c e
  | .par _ _ es => WfA c es
  | .parO _ _ es => WfA c es
  | .setattr cl _ f e => SetOk c.K c.mg cl f ∧ Wf c e
  | .setsub _ ix e => Wf c ix ∧ Wf c e
  | .aug _ op dn e => AugOk c op dn ∧ Wf c e
  | .ret e => Wf c e
  | .retN => True
  | .ifs t a b => Wf c t ∧ WfTs c a ∧ WfTs c b
  | .for_ _ src body => WfS c src ∧ WfTs c body
  | .while_ t body => Wf c t ∧ WfTs c body
  | .pass => True
  | .brk => True
  | .cont => True
  | .never => True
def WfTs (c : CC) : SSs → Prop
  | .nil => True
  | .cons s r => WfT c s ∧ WfTs c r
end
end Mp
namespace Mp
open PySem PySem.Spec PyProof.Rows L2
/-- a def's body: no error leaves, every name's cell is the def's -/
structure InB (c : CC) (X : Cx) : Prop where
  ic : InC c X
  hp : PassesOwn (model X.prog X.w) X.A X.env X.xe
  fn : ∀ y, X.fn y = true
section
variable {c : CC} {X : Cx} {bor : Nat → Bool} {H0 : Hp}
theorem InC.units (i : InC c X) : X.A.units + 1 < cLine := hu_of i.room
theorem tup_none {es : List Expr} {k : Nat} {p : Pos} {v : Expr} (h : (!isTup v) = true) (env : PySem.Env) : swappedStores [.Tuple es k p] v env = pure none := by
  cases v <;> first | rfl | cases h
theorem names_len {fn : Str → Bool} {N : List Str} {sc : Scope} : ∀ {l : List Nat} {es : List Expr}, mtNames N sc fn l es = true → es.length = l.length
  | [], [], _ => rfl
  | [], _ :: _, h => by cases h
  | _ :: _, [], h => by cases h
  | i :: l, e :: es, h => by
    cases e with
    | Name x p =>
      simp only [mtNames, Bool.and_eq_true] at h
      exact congrArg (· + 1) (names_len h.2.2)
    | _ => cases h
theorem locals_eq {sc : Scope} {x : Str} {p : Pos} {es : List Expr} : locals sc (.Name x p :: es) = (match sc.names.lookup x with | some .local => (locals sc es).map (x :: ·) | _ => none) := by
  rw [locals] <;> rfl
theorem locals_cons {sc : Scope} {x : Str} {p : Pos} {es : List Expr} (h : (locals sc (.Name x p :: es)).isSome = true) : sc.names.lookup x = some .local ∧ (locals sc es).isSome = true ∧ locals sc (.Name x p :: es) = (locals sc es).map (x :: ·) := by
  rw [locals_eq] at h ⊢
  cases q : sc.names.lookup x with
  | none => rw [q] at h; cases h
  | some z =>
    rw [q] at h
    cases z with
    | «local» =>
      have h : ((locals sc es).map (x :: ·)).isSome = true := h
      rw [Option.isSome_map] at h
      exact ⟨rfl, h, rfl⟩
    | cell => cases h
    | free => cases h
    | globalExplicit => cases h
    | globalImplicit => cases h
theorem mtNames_cons {fn : Str → Bool} {N : List Str} {sc : Scope} {i : Nat} {l : List Nat} {es : List Expr} (h : mtNames N sc fn (i :: l) es = true) : ∃ x p r, es = .Name x p :: r ∧ N[i]? = some x ∧ mtNames N sc fn l r = true := by
  cases es with
  | nil => cases h
  | cons e r =>
    cases e with
    | Name x p =>
      simp only [mtNames, Bool.and_eq_true, decide_eq_true_eq] at h
      exact ⟨x, p, r, rfl, h.1, h.2.2⟩
    | _ => cases h
theorem mtNames_nil {fn : Str → Bool} {N : List Str} {sc : Scope} {es : List Expr} (h : mtNames N sc fn [] es = true) : es = [] := by
  cases es with
  | nil => rfl
  | cons _ _ => cases h
theorem len2 {α : Type} {l : List α} (h : l.length = 2) : ∃ a b, l = [a, b] := by
  match l, h with
  | [a, b], _ => exact ⟨a, b, rfl⟩
theorem len3 {α : Type} {l : List α} (h : l.length = 3) : ∃ a b c, l = [a, b, c] := by
  match l, h with
  | [a, b, c], _ => exact ⟨a, b, c, rfl⟩
theorem s_assign {i : Nat} {e : SE} {x : Str} {px p : Pos} {v : Expr} (ib : InB c X) (wf : Wf c e) (hi : X.N[i]? = some x) (hl : loB X.env.scope anyFn x = true) (hw : swOk X.env.scope x px v = true) (hm : mtE X.N X.env.scope e v = true) :
    PS X (.Assign [.Name x px] v p) (tS X.K X.mg bor H0 (denS nx0 bor (.assign i e))) := by
  obtain ⟨q1, q2⟩ := lo_of (X := X) (fn := anyFn) (fun y _ => ib.fn y) hl
  have general : (swapsWith v (some (.Name x px)) p.line X.env = pure false) → PS X (.Assign [.Name x px] v p) (tS X.K X.mg bor H0 (denS nx0 bor (.assign i e))) := fun hs =>
    PS_imp (ps_set ib.ic.nd hi q1 (PE_gh (soundE e X v ib.ic wf hm).1) hs q2) fun _ _ _ z => r_assign z
  cases v with
  | ListComp el gs scope pos =>
    have hw : (swTrue X.env.scope scope x px pos || swFalse X.env.scope x) = true := hw
    cases hT : swTrue X.env.scope scope x px pos with
    | false =>
      rw [hT, Bool.false_or] at hw
      exact general (swF (scope := scope) (py := px) (pos := pos) (.inl ⟨_, _, rfl⟩) rfl hw)
    | true =>
      have hsw : swapsWith (.ListComp el gs scope pos) (some (.Name x px)) p.line X.env = pure true := swT (.inl ⟨_, _, rfl⟩) rfl hT
      have hloc : X.env.scope.names.lookup x = some .local := by
        unfold swTrue at hT
        simp only [Bool.and_eq_true] at hT
        have h2 := hT.2.1
        cases q : X.env.scope.names.lookup x with
        | none => rw [q] at h2; cases h2
        | some z => rw [q] at h2; cases z <;> first | rfl | cases h2
      cases e with
      | lc own tg src cond elt =>
        obtain ⟨w1, w2, w3⟩ := wf
        match gs, hm, hsw with
        | [⟨t, it, ifs, asy⟩], h, hsw =>
          simp only [mtE, Bool.and_eq_true, decide_eq_true_eq, beq_iff_eq] at h
          obtain ⟨rfl, hb, hs, hsrc, ht, hc, he⟩ := h
          refine PS_imp (ps_setLc (g := tG X.K X.mg tg) (tt := tT X.K X.mg (denC nx0 cond)) (te := gh (tV X.K X.mg (den2 nx0 elt).v)) ib.ic.calm ib.ic.nd hi hloc hsw (s_srcH (fun hp => soundSrc src X t it hp ib.ic w1 hsrc) hsrc) (blkOk_by hb) (fun s H C cl fp => s_tg (X := X.blk s H scope (compEnvC scope cl C X.env) fp) ib.ic.calm ib.ic.nd (fun _ z => z) ht)
            (fun s H C cl fp => soundC cond _ ifs (ib.ic.blk ..) w2 hc) (fun s H C cl fp => PE_gh (soundE elt _ el (ib.ic.blk ..) w3 he).1) (fun y => ok_fold (mtSrc_ok hsrc) X.env y)) fun D σ H z => ?_
          rw [ownP_snd]
          exact lc_read hs (r_assignR (fun _ _ z => z) z)
        | [], h, _ => simp [mtE] at h
        | _ :: _ :: _, h, _ => simp [mtE] at h
      | lc2 own own1 tg src cond tg1 src1 cond1 elt =>
        obtain ⟨w1, w2, w3, w4, w5⟩ := wf
        match gs, hm, hsw with
        | [⟨t, it, ifs, asy⟩, ⟨t1, it1, ifs1, asy1⟩], h, hsw =>
          simp only [mtE, Bool.and_eq_true, decide_eq_true_eq, beq_iff_eq] at h
          obtain ⟨rfl, hp, hp1, rfl, hb, hs, hs1, hss, hsrc, ht, hc, hsrc1, ht1, hc1, he⟩ := h
          refine PS_imp (ps_setLc2 (vs1 := own1) (g := tG X.K X.mg tg) (g1 := tG X.K X.mg tg1) (wi1 := tSrc X.K X.mg (denSrc nx0 src1)) (tt := tT X.K X.mg (denC nx0 cond)) (tt1 := tT X.K X.mg (denC nx0 cond1)) (te := gh (tV X.K X.mg (den2 nx0 elt).v)) ib.ic.calm ib.ic.nd hi hloc hsw (soundSrc src X t it hp ib.ic w1 hsrc) (blkOk_by hb) (by rw [ownP_snd]; exact hss) (fun s H C cl fp => s_tg (X := X.blk s H scope (compEnvC scope cl C X.env) fp) ib.ic.calm ib.ic.nd (fun _ z => z) ht)
            (fun s H C cl fp => soundC cond _ ifs (ib.ic.blk ..) w2 hc) (fun s H C cl fp => soundSrc src1 _ t1 it1 hp1 (ib.ic.blk ..) w3 hsrc1) (fun s H C cl fp => s_tg (X := X.blk s H scope (compEnvC scope cl C X.env) fp) ib.ic.calm ib.ic.nd (fun _ z => z) ht1)
            (fun s H C cl fp => soundC cond1 _ ifs1 (ib.ic.blk ..) w4 hc1) (fun s H C cl fp => PE_gh (soundE elt _ el (ib.ic.blk ..) w5 he).1) (fun y => ok_fold (mtSrc_ok hsrc) X.env y) (fun env y => ok_fold (mtSrc_ok hsrc1) env y)) fun D σ H z => ?_
          rw [ownP_snd]
          exact lc2_read hs hs1 (r_assignR (fun _ _ z => z) z)
        | [], h, _ => simp [mtE] at h
        | [_], h, _ => simp [mtE] at h
        | _ :: _ :: _ :: _, h, _ => simp [mtE] at h
      | prim sh _ _ => cases sh <;> cases hm
      | _ => cases hm
  | DictComp kx vx gs scope pos =>
    have hw : (swTrue X.env.scope scope x px pos || swFalse X.env.scope x) = true := hw
    cases hT : swTrue X.env.scope scope x px pos with
    | false =>
      rw [hT, Bool.false_or] at hw
      exact general (swF (scope := scope) (py := px) (pos := pos) (.inr ⟨_, _, _, rfl⟩) rfl hw)
    | true =>
      have hsw : swapsWith (.DictComp kx vx gs scope pos) (some (.Name x px)) p.line X.env = pure true := swT (.inr ⟨_, _, _, rfl⟩) rfl hT
      have hloc : X.env.scope.names.lookup x = some .local := by
        unfold swTrue at hT
        simp only [Bool.and_eq_true] at hT
        have h2 := hT.2.1
        cases q : X.env.scope.names.lookup x with
        | none => rw [q] at h2; cases h2
        | some z => rw [q] at h2; cases z <;> first | rfl | cases h2
      cases e with
      | dc own tg src cond k v =>
        obtain ⟨w1, w2, w3, w4⟩ := wf
        match gs, hm, hsw with
        | [⟨t, it, ifs, asy⟩], h, hsw =>
          simp only [mtE, Bool.and_eq_true, decide_eq_true_eq, beq_iff_eq] at h
          obtain ⟨rfl, hp, hb, hs, hsrc, ht, hc, hk, hv⟩ := h
          refine PS_imp (ps_setDc (g := tG X.K X.mg tg) (tt := tT X.K X.mg (denC nx0 cond)) (tk := gh (tV X.K X.mg (den2 nx0 k).v)) (tv := gh (tV X.K X.mg (den2 nx0 v).v)) ib.ic.calm ib.ic.nd hi hloc hsw (soundSrc src X t it hp ib.ic w1 hsrc) (blkOk_by hb) (fun s H C cl fp => s_tg (X := X.blk s H scope (compEnvC scope cl C X.env) fp) ib.ic.calm ib.ic.nd (fun _ z => z) ht)
            (fun s H C cl fp => soundC cond _ ifs (ib.ic.blk ..) w2 hc) (fun s H C cl fp => PE_gh (soundE k _ kx (ib.ic.blk ..) w3 hk).1) (fun s H C cl fp => PE_gh (soundE v _ vx (ib.ic.blk ..) w4 hv).1) (fun y => ok_fold (mtSrc_ok hsrc) X.env y)) fun D σ H z => ?_
          rw [ownP_snd]
          exact dc_read hs (r_assignR (fun _ _ z => z) z)
        | [], h, _ => simp [mtE] at h
        | _ :: _ :: _, h, _ => simp [mtE] at h
      | prim sh _ _ => cases sh <;> cases hm
      | _ => cases hm
  | SetComp _ _ _ _ => cases hw
  | _ => exact general rfl
theorem sub_assign {o j : Expr} {pos : Pos} {env : PySem.Env} (h : okE j = true) : ∀ v, assign (.Subscript o j pos) env v = (do
      let ov ← holding [v] (eval o env)
      let iv ← holding [v, ov] (eval j env)
      standAt pos
      holding [v, ov, iv] (setItem ov iv v)
      release [v, ov, iv] []) := by
  intro v
  cases j <;> first | rfl | cases h
mutual
theorem soundS {c : CC} {bor : Nat → Bool} {H0 : Hp} : ∀ (ss : SS) (X : Cx) (st : Stmt), InB c X → WfT c ss → mtS X.N X.env.scope ss st = true → PS X st (tS X.K X.mg bor H0 (denS nx0 bor ss))
  | .expr e, X, st, ib, wf, h => by
    cases st with
    | Expr v p =>
      simp only [mtS, Bool.and_eq_true] at h
      exact PS_imp (ps_expr (soundE e X v ib.ic wf h.2).1 (noSwap h.1 none p.line X.env)) fun _ _ _ z => r_expr z
    | _ => cases h
  | .assign i e, X, st, ib, wf, h => by
    unfold mtS at h
    split at h
    case h_2 => cases h
    case h_1 x px v p =>
      simp only [Bool.and_eq_true, decide_eq_true_eq] at h
      exact s_assign ib wf h.1 h.2.1 h.2.2.1 h.2.2.2
  | .assignT l e, X, st, ib, wf, h => by
    unfold mtS at h
    split at h
    case h_2 => cases h
    case h_1 es k p1 v p =>
      simp only [Bool.and_eq_true] at h
      obtain ⟨h1, h2, h3, h4⟩ := h
      have nm := names_of (X := X) (fn := anyFn) (fun y _ => ib.fn y) h1
      exact PS_imp (ps_asg (PE_gh (soundE e X v ib.ic wf h4).1) (pg_tup ib.ic.calm (nm.pgs ib.ic.nd) (n := l.length) nm.len nm.nostar) (show swapsWithSole [.Tuple es k p1] v p.line X.env = pure false from noSwap h2 (some (.Tuple es k p1)) p.line X.env) (tup_none h3 X.env) rfl) fun _ _ _ z => r_assignT z
  | .par sw l ses, X, st, ib, wf, h => by
    unfold mtS at h
    split at h
    case h_2 => cases h
    case h_1 ts k p1 vs k2 p2 p =>
      simp only [Bool.and_eq_true, decide_eq_true_eq] at h
      obtain ⟨h1, h2, h3, h5, h4⟩ := h
      have nm := names_of (X := X) (fn := anyFn) (fun y _ => ib.fn y) h1
      have hd := soundDs ses X vs ib.ic wf h2
      cases sw with
      | false =>
        have h4 : swp (envD X.env.scope) ts vs = some none := of_decide_eq_true h4
        refine PS_imp (ps_asg (pe_tup hd) (pg_tup ib.ic.calm (nm.pgs ib.ic.nd) (n := l.length) nm.len nm.nostar) rfl (swp_ok (env := X.env) (r := none) h4) rfl) fun _ _ _ z => r_parN (Nat.le_trans h5 (by decide)) z
      | true =>
        have h4 : (l.length = 2 ∨ l.length = 3) ∧ vs.length = l.length ∧ (locals X.env.scope ts).isSome = true ∧ swp (envD X.env.scope) ts vs = some (locals X.env.scope ts) := of_decide_eq_true h4
        obtain ⟨hl, hv, hloc, hsw⟩ := h4
        have hsw := swp_ok (env := X.env) (k := k) (k2 := k2) (p := p1) (p2 := p2) hsw
        rcases hl with hl | hl
        · obtain ⟨i, j, rfl⟩ := len2 hl
          obtain ⟨a, b, rfl⟩ := len2 (hv.trans hl)
          obtain ⟨x, q1, r1, rfl, n1, m1⟩ := mtNames_cons h1
          obtain ⟨y, q2, r2, rfl, n2, m2⟩ := mtNames_cons m1
          cases mtNames_nil m2
          obtain ⟨l1, i1, e1⟩ := locals_cons hloc
          obtain ⟨l2, i2, e2⟩ := locals_cons i1
          rw [e1, e2] at hsw
          have hij : i ≠ j := by
            intro e; subst e; simp at h3
          exact PS_imp (ps_par ib.ic.calm ib.ic.nd n1 n2 hij l1 l2 hd hsw rfl) fun _ _ _ z => r_par2 z
        · obtain ⟨i, j, m, rfl⟩ := len3 hl
          obtain ⟨a, b, d, rfl⟩ := len3 (hv.trans hl)
          obtain ⟨x, q1, r1, rfl, n1, m1⟩ := mtNames_cons h1
          obtain ⟨y, q2, r2, rfl, n2, m2⟩ := mtNames_cons m1
          obtain ⟨w, q3, r3, rfl, n3, m3⟩ := mtNames_cons m2
          cases mtNames_nil m3
          obtain ⟨l1, i1, e1⟩ := locals_cons hloc
          obtain ⟨l2, i2, e2⟩ := locals_cons i1
          obtain ⟨l3, i3, e3⟩ := locals_cons i2
          rw [e1, e2, e3] at hsw
          simp only [List.nodup_cons, List.mem_cons, List.not_mem_nil, or_false, not_or] at h3
          exact PS_imp (ps_par3 ib.ic.calm ib.ic.nd n1 n2 n3 h3.1.1 h3.1.2 h3.2.1 l1 l2 l3 hd hsw rfl) fun _ _ _ z => r_par3 z
  | .parO sw l ses, X, st, ib, wf, h => by
    unfold mtS at h
    split at h
    case h_2 => cases h
    case h_1 ts k p1 vs k2 p2 p =>
      simp only [Bool.and_eq_true, decide_eq_true_eq] at h
      obtain ⟨h1, h2, h3, h5, h4⟩ := h
      have nm := names_of (X := X) (fn := anyFn) (fun y _ => ib.fn y) h1
      have hd := soundA ses X vs ib.ic wf h2
      cases sw with
      | false =>
        have h4 : swp (envD X.env.scope) ts vs = some none := of_decide_eq_true h4
        refine PS_imp (ps_asg (pe_tup hd) (pg_tup ib.ic.calm (nm.pgs ib.ic.nd) (n := l.length) nm.len nm.nostar) rfl (swp_ok (env := X.env) (r := none) h4) rfl) fun _ _ _ z => r_parON (Nat.le_trans h5 (by decide)) z
      | true =>
        have h4 : (l.length = 2 ∨ l.length = 3) ∧ vs.length = l.length ∧ (locals X.env.scope ts).isSome = true ∧ swp (envD X.env.scope) ts vs = some (locals X.env.scope ts) := of_decide_eq_true h4
        obtain ⟨hl, hv, hloc, hsw⟩ := h4
        have hsw := swp_ok (env := X.env) (k := k) (k2 := k2) (p := p1) (p2 := p2) hsw
        rcases hl with hl | hl
        · obtain ⟨i, j, rfl⟩ := len2 hl
          obtain ⟨a, b, rfl⟩ := len2 (hv.trans hl)
          obtain ⟨x, q1, r1, rfl, n1, m1⟩ := mtNames_cons h1
          obtain ⟨y, q2, r2, rfl, n2, m2⟩ := mtNames_cons m1
          cases mtNames_nil m2
          obtain ⟨l1, i1, e1⟩ := locals_cons hloc
          obtain ⟨l2, i2, e2⟩ := locals_cons i1
          rw [e1, e2] at hsw
          have hij : i ≠ j := by
            intro e; subst e; simp at h3
          exact PS_imp (ps_par ib.ic.calm ib.ic.nd n1 n2 hij l1 l2 hd hsw rfl) fun _ _ _ z => r_parO2 z
        · obtain ⟨i, j, m, rfl⟩ := len3 hl
          obtain ⟨a, b, d, rfl⟩ := len3 (hv.trans hl)
          obtain ⟨x, q1, r1, rfl, n1, m1⟩ := mtNames_cons h1
          obtain ⟨y, q2, r2, rfl, n2, m2⟩ := mtNames_cons m1
          obtain ⟨w, q3, r3, rfl, n3, m3⟩ := mtNames_cons m2
          cases mtNames_nil m3
          obtain ⟨l1, i1, e1⟩ := locals_cons hloc
          obtain ⟨l2, i2, e2⟩ := locals_cons i1
          obtain ⟨l3, i3, e3⟩ := locals_cons i2
          rw [e1, e2, e3] at hsw
          simp only [List.nodup_cons, List.mem_cons, List.not_mem_nil, or_false, not_or] at h3
          exact PS_imp (ps_par3 ib.ic.calm ib.ic.nd n1 n2 n3 h3.1.1 h3.1.2 h3.2.1 l1 l2 l3 hd hsw rfl) fun _ _ _ z => r_parO3 z
  | .setattr cl i f e, X, st, ib, wf, h => by
    unfold mtS at h
    split at h
    case h_2 => cases h
    case h_1 x p1 f' p2 v p =>
      simp only [Bool.and_eq_true, decide_eq_true_eq] at h
      obtain ⟨h1, h2, h3, rfl, h6⟩ := h
      obtain ⟨n1, n2⟩ := nm_of h3
      have eq := ib.ic.eq
      have hc : SetOk X.K X.mg cl f := by
        have e1 : c.K = X.K := by rw [← eq]; rfl
        have e2 : c.mg = X.mg := by rw [← eq]; rfl
        rw [← e1, ← e2]; exact wf.1
      exact PS_imp (ps_fld (pe_var h1 (vis_of h2) n1 n2) (PE_gh (soundE e X v ib.ic wf.2 h6).1) swAttr) fun _ _ _ z => r_setattr hc z
  | .setsub i ix e, X, st, ib, wf, h => by
    unfold mtS at h
    split at h
    case h_2 => cases h
    case h_1 x p1 j p2 v p =>
      simp only [Bool.and_eq_true, decide_eq_true_eq] at h
      obtain ⟨h1, h2, h3, h6, h7⟩ := h
      obtain ⟨n1, n2⟩ := nm_of h3
      exact PS_imp (ps_asg (PE_gh (soundE e X v ib.ic wf.2 h7).1) (pg_sub (pe_var h1 (vis_of h2) n1 n2) (PE_gh (soundE ix X j ib.ic wf.1 h6).1) (set_any ib.ic.units) (sub_assign (mt_ok h6))) (show swapsWithSole [.Subscript (.Name x p1) j p2] v p.line X.env = pure false from swSub (o := .Name x p1) (i := j) (p := p2) (l := p.line) (env := X.env)) rfl rfl) fun _ _ _ z => r_setsub z
  | .aug i op dn e, X, st, ib, wf, h => by
    unfold mtS at h
    split at h
    case h_2 => cases h
    case h_1 x p1 op' v p =>
      simp only [Bool.and_eq_true, decide_eq_true_eq] at h
      obtain ⟨h1, h2, rfl, h4⟩ := h
      obtain ⟨q1, q2⟩ := lo_of (X := X) (fn := anyFn) (fun y _ => ib.fn y) h2
      exact PS_imp (ps_aug ib.ic.nd h1 q1 (PE_gh (soundE e X v ib.ic wf.2 h4).1) (wf.1 X ib.ic) q2) fun _ _ _ z => r_aug z
  | .ret e, X, st, ib, wf, h => by
    unfold mtS at h
    split at h
    case h_2 => cases h
    case h_1 v p => exact PS_imp (ps_ret (PE_gh (soundE e X v ib.ic wf h).1)) fun _ _ _ z => r_ret z
  | .retN, X, st, ib, wf, h => by
    unfold mtS at h
    split at h
    case h_2 => cases h
    case h_1 p => exact PS_imp ps_retN fun _ _ _ z => r_retN z
  | .ifs t a b, X, st, ib, wf, h => by
    unfold mtS at h
    split at h
    case h_2 => cases h
    case h_1 x p q pos =>
      simp only [Bool.and_eq_true] at h
      exact PS_imp (ps_if (soundE t X x ib.ic wf.1 h.1).2 (soundSs a X p ib wf.2.1 h.2.1) (soundSs b X q ib wf.2.2 h.2.2)) fun _ _ _ z => r_ifs z
  | .for_ tg src body, X, st, ib, wf, h => by
    unfold mtS at h
    split at h
    case h_2 => cases h
    case h_1 t it b pos =>
      simp only [Bool.and_eq_true] at h
      exact PS_imp (ps_for ib.hp ib.ic.calm (soundSrc src X t it h.2.2.2 ib.ic wf.1 h.1) (s_tg (fn := anyFn) ib.ic.calm ib.ic.nd (fun y _ => ib.fn y) h.2.1) (soundSs body X b ib wf.2 h.2.2.1) (fun y => ok_fold (mtSrc_ok h.1) X.env y)) fun _ _ _ z => r_for z
  | .while_ t body, X, st, ib, wf, h => by
    unfold mtS at h
    split at h
    case h_2 => cases h
    case h_1 x b pos =>
      simp only [Bool.and_eq_true] at h
      exact PS_imp (ps_while ib.hp (soundE t X x ib.ic wf.1 h.1).2 (soundSs body X b ib wf.2 h.2)) fun _ _ _ z => r_while z
  | .pass, X, st, ib, wf, h => by
    unfold mtS at h
    split at h
    case h_2 => cases h
    case h_1 p => exact PS_imp ps_pass fun _ _ _ z => r_nx (fun _ _ w => w) z
  | .brk, X, st, ib, wf, h => by
    unfold mtS at h
    split at h
    case h_2 => cases h
    case h_1 p => exact PS_imp ps_break fun _ _ _ z => r_brk z
  | .cont, X, st, ib, wf, h => by
    unfold mtS at h
    split at h
    case h_2 => cases h
    case h_1 p => exact PS_imp ps_continue fun _ _ _ z => r_cont z
  | .never, X, st, ib, wf, h => PS_imp ps_never fun _ _ _ z => let ⟨_, _, _, _, _, _, w, _⟩ := z; w
theorem soundSs {c : CC} {bor : Nat → Bool} {H0 : Hp} : ∀ (ss : SSs) (X : Cx) (st : List Stmt), InB c X → WfTs c ss → mtSs X.N X.env.scope ss st = true → PSs X st (tS X.K X.mg bor H0 (denSs nx0 bor ss))
  | .nil, X, st, ib, wf, h => by
    cases st with
    | nil => exact PSs_imp pss_nil fun _ _ _ z => r_nx (fun _ _ w => w) z
    | cons _ _ => cases h
  | .cons s r, X, st, ib, wf, h => by
    cases st with
    | nil => cases h
    | cons x xs =>
      simp only [mtSs, Bool.and_eq_true] at h
      exact PSs_imp (pss_cons (soundS s X x ib wf.1 h.1) (soundSs r X xs ib wf.2 h.2)) fun _ _ _ z => r_seq z
end
end
end Mp
namespace Mp
open PySem PySem.Spec PyProof.Rows L2
section
variable {K : PySem.W.Frag} {mg : Str → Option Value} {Hs H Hs1 H1 : Hp} {σ σ1 : L2.St} {env env1 : En}
theorem behind_at {args : List RV} {e : En} {i : Nat} {r' : RV} (h : (behind args e)[i]? = some r') : ∃ r, args[i]? = some r ∧ ((r.own = false ∧ r' = r) ∨ (r.own = true ∧ r' = ((e[i]?).join).getD r)) := by
  unfold behind at h
  rw [List.getElem?_map, List.getElem?_zipIdx] at h
  cases q : args[i]? with
  | none => rw [q] at h; cases h
  | some r =>
    rw [q] at h
    simp only [Option.map_some, Option.some.injEq, Nat.zero_add] at h
    refine ⟨r, rfl, ?_⟩
    cases o : r.own with
    | false => exact .inl ⟨rfl, by rw [← h, o]; rfl⟩
    | true => exact .inr ⟨rfl, by rw [← h, o]; rfl⟩
theorem behind_len {args : List RV} {e : En} : (behind args e).length = args.length := by
  unfold behind; rw [List.length_map, List.length_zipIdx]
theorem mapAt {α : Type} {l : List α} {i : Nat} {r : α} (h : (l.map some)[i]? = some (some r)) : l[i]? = some r := by
  rw [List.getElem?_map] at h
  cases q : l[i]? with
  | none => rw [q] at h; cases h
  | some z => rw [q] at h; cases h; rfl
theorem mapAt' {α : Type} {l : List α} {i : Nat} {r : α} (h : l[i]? = some r) : (l.map some)[i]? = some (some r) := by rw [List.getElem?_map, h]; rfl
theorem repAt {α : Type} {l : List α} {n i : Nat} {r : α} (h : (l.map some ++ List.replicate n none)[i]? = some (some r)) : l[i]? = some r := by
  by_cases hi : i < l.length
  · rw [List.getElem?_append_left (by rw [List.length_map]; exact hi)] at h
    exact mapAt h
  · rw [List.getElem?_append_right (by rw [List.length_map]; omega)] at h
    have := List.mem_of_getElem? h
    cases List.eq_of_mem_replicate this
theorem repAt' {α : Type} {l : List α} {n i : Nat} {r : α} (h : l[i]? = some r) : (l.map some ++ List.replicate n none)[i]? = some (some r) := by
  have hi : i < l.length := (List.getElem?_eq_some_iff.mp h).1
  rw [List.getElem?_append_left (by rw [List.length_map]; exact hi)]
  exact mapAt' h
theorem start_ok {vs : List V} {rvs : List RV} {n : Nat} (ok : EnvOk K mg Hs H (vs.map some) (rvs.map some)) : EnvOk K mg Hs H (vs.map some ++ List.replicate n none) (rvs.map some ++ List.replicate n none) := by
  refine ⟨ok.sub, ?_, fun i rv e => ?_, fun i j rv rv' a hij e1 e2 o1 o2 s1 s2 => ?_⟩
  · have := ok.len
    simp only [List.length_append, List.length_map, List.length_replicate] at this ⊢
    omega
  · obtain ⟨v, e', w⟩ := ok.at_ i rv (mapAt' (repAt e))
    exact ⟨v, repAt' (mapAt e'), w⟩
  · exact ok.sep i j rv rv' a hij (mapAt' (repAt e1)) (mapAt' (repAt e2)) o1 o2 (mapAt' (repAt s1)) (mapAt' (repAt s2))
theorem start_ft {vs : List V} {rvs : List RV} {n : Nat} {b : Addr} (f : Ft (vs.map some ++ List.replicate n none) (rvs.map some ++ List.replicate n none) b) : Ft (vs.map some) (rvs.map some) b := by
  obtain ⟨i, rv, e, o, s⟩ := f
  exact ⟨i, rv, mapAt' (repAt e), o, mapAt' (repAt s)⟩
/-- the arguments behind the def -/
theorem behind_ok {vs : List V} {rvs : List RV} {n : Nat} {H0 : Hp} (ok : EnvOk K mg Hs H (vs.map some) (rvs.map some))
    (a : AftS K mg (borOf rvs) H0 Hs H (vs.map some ++ List.replicate n none) (rvs.map some ++ List.replicate n none) Hs1 H1 σ1 env1) :
    EnvOk K mg Hs1 H1 (vs.map some) ((behind rvs env1).map some) ∧ Sub (rvs.map some) ((behind rvs env1).map some) := by
  have look : ∀ (i : Nat) (r' : RV), (behind rvs env1)[i]? = some r' → ∃ r v, rvs[i]? = some r ∧ vs[i]? = some v ∧ Own K mg Hs1 H1 v r' ∧ (r'.own = true → r.own = true ∧ env1[i]? = some (some r') ∧ σ1[i]? = some (some v)) := fun i r' e => by
    obtain ⟨r, er, q⟩ := behind_at e
    obtain ⟨v, ev, w⟩ := ok.at_ i r (mapAt' er)
    have ev := mapAt ev
    refine ⟨r, v, er, ev, ?_⟩
    rcases q with ⟨o, rfl⟩ | ⟨o, q⟩
    · cases r' with
      | d x => exact ⟨Rep.mono a.t.same w, fun z => by cases z⟩
      | _ => cases o
    · have hb : borOf rvs i = true := by unfold borOf; rw [er]; exact o
      obtain ⟨p1, p2⟩ := a.par i hb
      obtain ⟨rv1, e1⟩ := p2 r (repAt' er)
      rw [e1] at q
      have q : r' = rv1 := q
      subst q
      rw [repAt' ev] at p1
      obtain ⟨v', ev', w'⟩ := a.ok.at_ i r' e1
      rw [p1] at ev'; cases ev'
      exact ⟨w', fun _ => ⟨o, e1, p1⟩⟩
  refine ⟨⟨a.ok.sub, ?_, fun i rv e => ?_, fun i j rv rv' b hij e1 e2 o1 o2 s1 s2 => ?_⟩, fun i rv' e o => ?_⟩
  · have := ok.len
    simp only [List.length_map] at this ⊢
    rw [behind_len]; exact this
  · obtain ⟨r, v, _, ev, w, _⟩ := look i rv (mapAt e)
    exact ⟨v, mapAt' ev, w⟩
  · obtain ⟨_, v, _, ev, _, z⟩ := look i rv (mapAt e1)
    obtain ⟨_, v', _, ev', _, z'⟩ := look j rv' (mapAt e2)
    obtain ⟨_, y1, y2⟩ := z o1
    obtain ⟨_, y1', y2'⟩ := z' o2
    rw [mapAt s1] at ev; cases ev
    rw [mapAt s2] at ev'; cases ev'
    exact a.ok.sep i j rv rv' b hij y1 y1' o1 o2 y2 y2'
  · obtain ⟨r, v, er, _, _, z⟩ := look i rv' (mapAt e)
    exact ⟨r, mapAt' er, (z o).1⟩
end
section
variable {P : Program} {w : World} {K : PySem.W.Frag} {mg : Str → Option Value} {base : Heap} {x qual : Str} {params : Arguments} {body : List Stmt} {scope : Scope} {dvs : List V} {kws : List (Str × V)} {f : Addr} {fd : FuncData}
theorem spD_len {dn : Den} {n : Nat} (hd : ∀ a Q E, dn a Q E → a.length = n) (vs : List V) (H : Hp) (Q : VK) (E : XK) (h : spD K mg dn vs H Q E) : vs.length = n := by
  obtain ⟨Hs, rvs, Kq, ok, d, _⟩ := h
  have := ok.len
  simp only [List.length_map] at this
  rw [this]; exact hd _ _ _ d
/-- a def keeps its promise -/
theorem def_ok {N ps : List Str} {k : Nat} {ss : SSs} (F : FunD K x qual params body scope dvs kws f fd) (S : FnScope N ps scope) (hm : mtSs N scope ss body = true) (wf : WfTs ⟨P, w, K, mg, base, k⟩ ss) :
    FnOk P w K mg base CX0 (k + 1) f fd ps (spD K mg (denF ps.length N.length ss)) := by
  refine F.ok S (spD_len fun a Q E h => h.1) fun cdv A outer s H vs Q E hr h => ?_
  obtain ⟨Hs, rvs, Kq, ok, ⟨hl, dn⟩, h⟩ := h
  have hlen : vs.length = rvs.length := by
    have := ok.len
    simp only [List.length_map] at this
    exact this
  let X := (cxOf CX0 P w K mg base N qual scope f cdv A outer s H E).nox
  have ib : InB ⟨P, w, K, mg, base, k⟩ X := ⟨⟨rfl, hr, rfl, S.nd⟩, PassesOwn.never, fun _ => rfl⟩
  refine ⟨_, (soundSs (bor := borOf rvs) (H0 := H) ss X body ib wf hm).nox, Hs, rvs.map some ++ List.replicate (N.length - ps.length) none, _, ?_, ?_, fun _ z => z, dn, ?_⟩
  · have := start_ok (n := N.length - vs.length) ok
    rw [← hl, ← hlen]; exact this
  · intro i rv a hb e o s
    have e := repAt e
    unfold borOf at hb
    rw [e] at hb
    have hb : rv.own = false := hb
    rw [o] at hb; cases hb
  · have go : ∀ (r : RV) (env1 : En), Kq r (behind rvs env1) → ∀ (v : V) (σ1 : L2.St) (Hs1 H1 : Hp), AftS K mg (borOf rvs) H Hs H (start N vs) (rvs.map some ++ List.replicate (N.length - ps.length) none) Hs1 H1 σ1 env1 →
        Own K mg Hs1 H1 v r → (r.own = true → ∀ a, v = .ref a → H a = none) → Q v H1 := fun r env1 k v σ1 Hs1 H1 a w fr => by
      have e : N.length - ps.length = N.length - vs.length := by rw [hlen, hl]
      rw [e] at a
      obtain ⟨ok1, sb⟩ := behind_ok ok a
      exact h r _ k v Hs1 H1 (a.t.mono fun b f => .inl (start_ft f)) ok1 sb w fr
    exact ⟨fun env1 k σ1 Hs1 H1 a => go _ env1 k .non σ1 Hs1 H1 a Rep.non (fun o => by cases o), fun _ k => k.elim, fun _ k => k.elim, fun r env1 k v σ1 Hs1 H1 a w fr => go r env1 k v σ1 Hs1 H1 a w fun o b e => (fr o b e).1⟩
end
end Mp
namespace Mp
open PySem PySem.Spec PyProof.Rows L2
/-- an operation that changes nothing: a function of the arguments as data -/
def funD (g : List D → Option RV) : Den := fun args Q _ => ∃ r, g (args.map RV.fz) = some r ∧ Q r args
section
variable {K : PySem.W.Frag} {mg : Str → Option Value} {Hs H Hs' H' : Hp} {v x y : V} {rv : RV}
theorem own_int {i : Int} (w : Own K mg Hs H v rv) (e : rv.fz = .int i) : v = .int i := by
  cases rv with
  | d d => have e : d = .int i := e; subst e; cases w; rfl
  | _ => cases e
theorem own_str {i : Str} (w : Own K mg Hs H v rv) (e : rv.fz = .str i) : v = .str i := by
  cases rv with
  | d d => have e : d = .str i := e; subst e; cases w; rfl
  | _ => cases e
theorem own_bl {i : Bool} (w : Own K mg Hs H v rv) (e : rv.fz = .bl i) : v = .bl i := by
  cases rv with
  | d d => have e : d = .bl i := e; subst e; cases w; rfl
  | _ => cases e
theorem own_non (w : Own K mg Hs H v rv) (e : rv.fz = .non) : v = .non := by
  cases rv with
  | d d => have e : d = .non := e; subst e; cases w; rfl
  | _ => cases e
theorem own_lst {xs : List D} (w : Own K mg Hs H v rv) (s : Same Hs H) (e : rv.fz = .lst xs) : ∃ a vs, v = .ref a ∧ H a = some (.lst vs) ∧ Reps K mg Hs vs xs := by
  cases rv with
  | d d =>
    have e : d = .lst xs := e
    subst e
    cases w with
    | lst q r => exact ⟨_, _, rfl, s _ _ q, r⟩
  | olst ys => cases e; obtain ⟨a, vs, rfl, h, _, r⟩ := w; exact ⟨a, vs, rfl, h, r⟩
  | _ => cases e
theorem own_scr {xs : List D} (w : Own K mg Hs H v rv) (s : Same Hs H) (e : rv.fz = .scr xs) : ∃ a vs, v = .ref a ∧ SqL K H a vs ∧ Reps K mg Hs vs xs := by
  cases rv with
  | d d =>
    have e : d = .scr xs := e
    subst e
    cases w with
    | scr q r => exact ⟨_, _, rfl, SqL_same s q, r⟩
  | _ => cases e
theorem own_tup {xs : List D} (w : Own K mg Hs H v rv) (s : Same Hs H) (e : rv.fz = .tup xs) : ∃ a vs, v = .ref a ∧ SqT K H a vs ∧ Reps K mg Hs vs xs := by
  cases rv with
  | d d =>
    have e : d = .tup xs := e
    subst e
    cases w with
    | tup q r => exact ⟨_, _, rfl, SqT_same s q, r⟩
  | _ => cases e
theorem own_dic {xs : List (Key × D)} (w : Own K mg Hs H v rv) (s : Same Hs H) (e : rv.fz = .dic xs) : ∃ a ks, v = .ref a ∧ Rd H a (.dK ks) ∧ RepK K mg Hs ks xs := by
  cases rv with
  | d d =>
    have e : d = .dic xs := e
    subst e
    cases w with
    | dic q r => exact ⟨_, _, rfl, .inr ⟨_, s _ _ q⟩, r⟩
  | odic ys => cases e; obtain ⟨a, vs, rfl, h, _, r⟩ := w; exact ⟨a, vs, rfl, .inl h, r⟩
  | _ => cases e
theorem own_ins {c : Str} {xs : List (Str × D)} (w : Own K mg Hs H v rv) (s : Same Hs H) (e : rv.fz = .ins c xs) : ∃ a C dx gs, v = .ref a ∧ mg c = some (.ref C) ∧ H a = some (.ins C dx gs) ∧ RepF K mg Hs gs xs := by
  cases rv with
  | d d =>
    have e : d = .ins c xs := e
    subst e
    cases w with
    | ins m q r => exact ⟨_, _, _, _, rfl, m, s _ _ q, r⟩
  | oins _ ys => cases e; obtain ⟨a, C, dx, vs, rfl, m, h, _, r⟩ := w; exact ⟨a, C, dx, vs, rfl, m, h, r⟩
  | _ => cases e
/-- what a call's answer is good for -/
def Post (K : PySem.W.Frag) (mg : Str → Option Value) (Hs H : Hp) (vs : List V) (rvs : List RV) (Kq : RV → List RV → Prop) (Q : VK) : Prop :=
  ∀ r rvs', Kq r rvs' → ∀ v Hs' H', T (Ft (vs.map some) (rvs.map some)) Hs H Hs' H' → EnvOk K mg Hs' H' (vs.map some) (rvs'.map some) → Sub (rvs.map some) (rvs'.map some) →
    Own K mg Hs' H' v r → (r.own = true → ∀ a, v = .ref a → H a = none) → Q v H'
section
variable {vs : List V} {rvs : List RV} {Kq : RV → List RV → Prop} {Q : VK}
theorem post_d {d : D} (h : Post K mg Hs H vs rvs Kq Q) (ok : EnvOk K mg Hs H (vs.map some) (rvs.map some)) (k : Kq (.d d) rvs) (r : Rep K mg Hs v d) : Q v H :=
  h _ _ k v Hs H T.refl ok Sub.refl r fun z => nomatch z
theorem post_new {r : RV} {p : Addr} {o : HO} (h : Post K mg Hs H vs rvs Kq Q) (ok : EnvOk K mg Hs H (vs.map some) (rvs.map some)) (k : Kq r rvs) (n : H p = none) (w : Hs p = none → Own K mg Hs (upd H p o) (.ref p) r) : Q (.ref p) (upd H p o) := by
  obtain ⟨a, hs⟩ := fresh_lst (H0 := H) (o := o) ok n
  exact h _ _ k _ Hs _ a.t a.ok Sub.refl (w hs) fun _ b e => by cases e; exact n
theorem post_sh {d : D} {p : Addr} {o : HO} (h : Post K mg Hs H vs rvs Kq Q) (ok : EnvOk K mg Hs H (vs.map some) (rvs.map some)) (k : Kq (.d d) rvs) (n : H p = none) (w : Same Hs (upd Hs p o) → Rep K mg (upd Hs p o) (.ref p) d) : Q (.ref p) (upd H p o) := by
  have a := fresh_sh (o := o) ok n
  exact h _ _ k _ _ _ a.t a.ok Sub.refl (w a.t.same) fun z => nomatch z
theorem post_lst {xs : List D} {ws : List V} {p : Addr} (h : Post K mg Hs H vs rvs Kq Q) (ok : EnvOk K mg Hs H (vs.map some) (rvs.map some)) (k : Kq (.olst xs) rvs) (n : H p = none) (r : Reps K mg Hs ws xs) : Q (.ref p) (upd H p (.lst ws)) :=
  post_new h ok k n fun hs => ⟨p, ws, rfl, upd_same, hs, r⟩
theorem post_tup {xs : List D} {ws : List V} {p : Addr} (h : Post K mg Hs H vs rvs Kq Q) (ok : EnvOk K mg Hs H (vs.map some) (rvs.map some)) (k : Kq (.d (.tup xs)) rvs) (n : H p = none) (r : Reps K mg Hs ws xs) : Q (.ref p) (upd H p (.tup ws)) :=
  post_sh h ok k n fun s => .tup (SqT.of upd_same) (r.mono s)
theorem post_dic {xs : List (Key × D)} {ws : List (Key × V)} {p : Addr} (h : Post K mg Hs H vs rvs Kq Q) (ok : EnvOk K mg Hs H (vs.map some) (rvs.map some)) (k : Kq (.odic xs) rvs) (n : H p = none) (r : RepK K mg Hs ws xs) : Q (.ref p) (upd H p (.dK ws)) :=
  post_new h ok k n fun hs => ⟨p, ws, rfl, upd_same, hs, r⟩
end
theorem args1 {rvs : List RV} (ok : EnvOk K mg Hs H ([x].map some) (rvs.map some)) : ∃ ra, rvs = [ra] ∧ Own K mg Hs H x ra := by
  have hl := ok.len
  simp only [List.length_map, List.length_cons, List.length_nil] at hl
  match rvs, hl with
  | [ra], _ =>
    obtain ⟨v, e, w⟩ := ok.at_ 0 ra rfl
    cases e
    exact ⟨ra, rfl, w⟩
theorem args2 {rvs : List RV} (ok : EnvOk K mg Hs H ([x, y].map some) (rvs.map some)) : ∃ ra rb, rvs = [ra, rb] ∧ Own K mg Hs H x ra ∧ Own K mg Hs H y rb := by
  have hl := ok.len
  simp only [List.length_map, List.length_cons, List.length_nil] at hl
  match rvs, hl with
  | [ra, rb], _ =>
    obtain ⟨v, e, w⟩ := ok.at_ 0 ra rfl
    cases e
    obtain ⟨v, e, w2⟩ := ok.at_ 1 rb rfl
    cases e
    exact ⟨ra, rb, rfl, w, w2⟩
end
section
variable {c : CC} {X : Cx}
/-- a two-place operation on two values, from a rule of the kit -/
theorem op2_of {op : Value → Value → Sem Value} {r : R2} {g : List D → Option RV} (h : OpR X op r)
    (i : ∀ (x y : V) (H Hs : Hp) (ra rb : RV) (Kq : RV → List RV → Prop) (Q : VK) (z : RV), EnvOk X.K X.mg Hs H ([x, y].map some) ([ra, rb].map some) → Own X.K X.mg Hs H x ra → Own X.K X.mg Hs H y rb → g [ra.fz, rb.fz] = some z → Kq z [ra, rb] → Post X.K X.mg Hs H [x, y] [ra, rb] Kq Q → r x y H Q) :
    OpR X op fun x y H Q => spD X.K X.mg (funD g) [x, y] H Q E0 := by
  intro pins s σ H x y v u Q I rx ry q
  obtain ⟨Hs, rvs, Kq, ok, ⟨z, hg, k⟩, h2⟩ := q
  obtain ⟨ra, rb, rfl, w1, w2⟩ := args2 ok
  exact h pins s σ H x y v u Q I rx ry (i x y H Hs ra rb Kq Q z ok w1 w2 hg k h2)
theorem op1_of {op : Value → Sem Value} {r : V → Hp → VK → Prop} {g : List D → Option RV} (h : UnR X op r)
    (i : ∀ (x : V) (H Hs : Hp) (ra : RV) (Kq : RV → List RV → Prop) (Q : VK) (z : RV), EnvOk X.K X.mg Hs H ([x].map some) ([ra].map some) → Own X.K X.mg Hs H x ra → g [ra.fz] = some z → Kq z [ra] → Post X.K X.mg Hs H [x] [ra] Kq Q → r x H Q) :
    UnR X op fun x H Q => spD X.K X.mg (funD g) [x] H Q E0 := by
  intro pins s σ H x v Q I rx q
  obtain ⟨Hs, rvs, Kq, ok, ⟨z, hg, k⟩, h2⟩ := q
  obtain ⟨ra, rfl, w1⟩ := args1 ok
  exact h pins s σ H x v Q I rx (i x H Hs ra Kq Q z ok w1 hg k h2)
/-- on two ints -/
def gI (C : Int → Int → Bool) (f : Int → Int → D) : List D → Option RV
  | [.int a, .int b] => if C a b then some (.d (f a b)) else none
  | _ => none
theorem gI_eq {C : Int → Int → Bool} {f : Int → Int → D} {a b : D} {z : RV} (h : gI C f [a, b] = some z) : ∃ i j, a = .int i ∧ b = .int j ∧ C i j = true ∧ z = .d (f i j) := by
  unfold gI at h
  split at h
  · rename_i i j e
    cases e
    by_cases hc : C i j = true
    · rw [if_pos hc] at h; cases h; exact ⟨_, _, rfl, rfl, hc, rfl⟩
    · rw [if_neg hc] at h; cases h
  · cases h
theorem op_gI {op : Value → Value → Sem Value} {P : Int → Int → Prop} {C : Int → Int → Bool} {f : Int → Int → V} {f' : Int → Int → D} (h : OpR X op (rI P f)) (hc : ∀ i j, C i j = true → P i j) (hf : ∀ i j H, Rep X.K X.mg H (f i j) (f' i j)) :
    OpR X op fun x y H Q => spD X.K X.mg (funD (gI C f')) [x, y] H Q E0 :=
  op2_of h fun x y H Hs ra rb Kq Q z ok w1 w2 hg k h2 => by
    obtain ⟨i, j, e1, e2, hC, rfl⟩ := gI_eq hg
    exact ⟨i, j, own_int w1 e1, own_int w2 e2, hc i j hC, post_d h2 ok k (hf i j Hs)⟩
theorem op_gI0 {op : Value → Value → Sem Value} {f : Int → Int → V} {f' : Int → Int → D} (h : OpR X op (rI0 f)) (hf : ∀ i j H, Rep X.K X.mg H (f i j) (f' i j)) :
    OpR X op fun x y H Q => spD X.K X.mg (funD (gI (fun _ _ => true) f')) [x, y] H Q E0 :=
  op2_of h fun x y H Hs ra rb Kq Q z ok w1 w2 hg k h2 => by
    obtain ⟨i, j, e1, e2, hC, rfl⟩ := gI_eq hg
    exact ⟨i, j, own_int w1 e1, own_int w2 e2, post_d h2 ok k (hf i j Hs)⟩
def always : Int → Int → Bool := fun _ _ => true
def gSub2 := gI always fun i j => .int (i - j)
def gMul := gI (fun i j => decide (-(2 ^ 64) < i ∧ i < 2 ^ 64) || decide (-(2 ^ 64) < j ∧ j < 2 ^ 64)) fun i j => .int (i * j)
def gFdiv := gI (fun i j => decide (0 < j ∧ j < 1073741824)) fun i j => .int (i / j)
def gMod := gI (fun i j => decide (0 < j)) fun i j => .int (i % j)
def gPow := gI (fun i j => decide (0 ≤ j ∧ j ≤ 1000000 ∧ i.natAbs < 2 ^ 64)) fun i j => .int (i ^ j.toNat)
def gLt := gI always fun i j => .bl (decide (i < j))
def gLe := gI always fun i j => .bl (decide (i ≤ j))
def gGt := gI always fun i j => .bl (decide (j < i))
def gGe := gI always fun i j => .bl (decide (j ≤ i))
theorem k_sub : PrimOk c (.bin .Sub) (funD gSub2) := fun X _ => op_gI0 op_sub fun _ _ _ => .int
theorem k_mul : PrimOk c (.bin .Mult) (funD gMul) := fun X _ => op_gI op_mul (fun i j h => by
  rcases Bool.or_eq_true_iff.mp h with h | h
  · exact .inl (of_decide_eq_true h)
  · exact .inr (of_decide_eq_true h)) fun _ _ _ => .int
theorem k_fdiv : PrimOk c (.bin .FloorDiv) (funD gFdiv) := fun X _ => op_gI op_fdiv (fun i j h => (of_decide_eq_true h : 0 < j ∧ j < 1073741824)) fun _ _ _ => .int
theorem k_mod : PrimOk c (.bin .Mod) (funD gMod) := fun X _ => op_gI op_mod (fun i j h => of_decide_eq_true h) fun _ _ _ => .int
theorem k_pow : PrimOk c (.bin .Pow) (funD gPow) := fun X _ => op_gI op_pow (fun i j h => (of_decide_eq_true h : 0 ≤ j ∧ j ≤ 1000000 ∧ i.natAbs < 2 ^ 64)) fun _ _ _ => .int
theorem k_lt : PrimOk c (.cmp .Lt) (funD gLt) := fun X _ => op_gI0 op_lt fun _ _ _ => .bl
theorem k_le : PrimOk c (.cmp .LtE) (funD gLe) := fun X _ => op_gI0 op_le fun _ _ _ => .bl
theorem k_gt : PrimOk c (.cmp .Gt) (funD gGt) := fun X _ => op_gI0 op_gt fun _ _ _ => .bl
theorem k_ge : PrimOk c (.cmp .GtE) (funD gGe) := fun X _ => op_gI0 op_ge fun _ _ _ => .bl
/-- a + b: ints, texts, lists, tuples -/
def gAdd : List D → Option RV
  | [.int a, .int b] => some (.d (.int (a + b)))
  | [.str a, .str b] => if a.length + b.length ≤ sizeLine then some (.d (.str (a ++ b))) else none
  | [.lst a, .lst b] => if a.length + b.length ≤ sizeLine then some (.olst (a ++ b)) else none
  | _ => none
theorem k_add : PrimOk c (.bin .Add) (funD gAdd) := fun X _ => by
  refine op2_of ((op_add.or op_add_str).or op_cat) fun x y H Hs ra rb Kq Q z ok w1 w2 hg k h2 => ?_
  generalize e1 : ra.fz = a at hg
  generalize e2 : rb.fz = b at hg
  unfold gAdd at hg
  split at hg
  · rename_i i j e
    cases e; cases hg
    exact .inl (.inl ⟨i, j, own_int w1 e1, own_int w2 e2, post_d h2 ok k .int⟩)
  · rename_i i j e
    cases e
    by_cases hz : i.length + j.length ≤ sizeLine
    · rw [if_pos hz] at hg; cases hg
      exact .inl (.inr ⟨i, j, own_str w1 e1, own_str w2 e2, hz, post_d h2 ok k .str⟩)
    · rw [if_neg hz] at hg; cases hg
  · rename_i i j e
    cases e
    by_cases hz : i.length + j.length ≤ sizeLine
    · rw [if_pos hz] at hg; cases hg
      obtain ⟨p, vs, rfl, hp, r1⟩ := own_lst w1 ok.sub e1
      obtain ⟨q, ws, rfl, hq, r2⟩ := own_lst w2 ok.sub e2
      exact .inr ⟨p, q, vs, ws, rfl, rfl, hp, hq, by rw [r1.length, r2.length]; exact hz, fun n hn => post_lst h2 ok k hn (r1.append r2)⟩
    · rw [if_neg hz] at hg; cases hg
  · cases hg
/-- `is None` -/
def gIsN : List D → Option RV
  | [a, .non] => some (.d (.bl (match a with | .non => true | _ => false)))
  | _ => none
def gNotN : List D → Option RV
  | [a, .non] => some (.d (.bl (match a with | .non => false | _ => true)))
  | _ => none
theorem own_isN {Hs H : Hp} {x : V} {ra : RV} (w : Own X.K X.mg Hs H x ra) : decide (x = V.non) = (match ra.fz with | .non => true | _ => false) := by
  cases ra with
  | d d => cases w <;> simp [RV.fz]
  | olst _ => obtain ⟨a, _, rfl, _⟩ := w; simp [RV.fz]
  | odic _ => obtain ⟨a, _, rfl, _⟩ := w; simp [RV.fz]
  | oins _ _ => obtain ⟨a, _, _, _, rfl, _⟩ := w; simp [RV.fz]
theorem k_isN : PrimOk c (.cmp .Is) (funD gIsN) := fun X _ => by
  refine op2_of op_isN fun x y H Hs ra rb Kq Q z ok w1 w2 hg k h2 => ?_
  generalize e2 : rb.fz = b at hg
  unfold gIsN at hg
  split at hg
  · rename_i a e
    cases e; cases hg
    exact ⟨own_non w2 e2, post_d h2 ok k (by rw [own_isN w1]; exact .bl)⟩
  · cases hg
theorem k_notN : PrimOk c (.cmp .IsNot) (funD gNotN) := fun X _ => by
  refine op2_of op_notN fun x y H Hs ra rb Kq Q z ok w1 w2 hg k h2 => ?_
  generalize e2 : rb.fz = b at hg
  unfold gNotN at hg
  split at hg
  · rename_i a e
    cases e; cases hg
    refine ⟨own_non w2 e2, post_d h2 ok k ?_⟩
    rw [own_isN w1]
    cases ra.fz <;> exact .bl
  · cases hg
def gNeg : List D → Option RV
  | [.int a] => some (.d (.int (-a)))
  | _ => none
theorem k_neg : PrimOk c (.un .USub) (funD gNeg) := fun X _ => by
  refine op1_of un_neg fun x H Hs ra Kq Q z ok w1 hg k h2 => ?_
  generalize e1 : ra.fz = a at hg
  unfold gNeg at hg
  split at hg
  · rename_i i e
    cases e; cases hg
    exact ⟨i, own_int w1 e1, post_d h2 ok k .int⟩
  · cases hg
/-- xs[i] -/
def gIx : List D → Option RV
  | [.lst xs, .int i] => (atI xs i).map .d
  | [.tup xs, .int i] => (atI xs i).map .d
  | [.scr xs, .int i] => (atI xs i).map .d
  | [.str z, .int i] => if z.length ≤ sizeLine then (atI z.cps.toList i).map fun k => .d (.str ⟨#[k]⟩) else none
  | _ => none
theorem reps_atI {H : Hp} {vs : List V} {xs : List D} {i : Int} {d : D} (r : Reps X.K X.mg H vs xs) (e : atI xs i = some d) : ∃ v, atI vs i = some v ∧ Rep X.K X.mg H v d := by
  unfold atI at e ⊢
  rw [r.length]
  cases q : ixN xs.length i with
  | none => rw [q] at e; cases e
  | some j => rw [q] at e; exact r.get e
theorem k_ix : PrimOk c .sub (funD gIx) := fun X _ => by
  intro value slice pins s σ H x y v u Q I rx ry q hs
  refine ix_seq value slice pins s σ H x y v u Q I rx ry ?_ hs
  obtain ⟨Hs, rvs, Kq, ok, ⟨z, hg, k⟩, h2⟩ := q
  obtain ⟨ra, rb, rfl, w1, w2⟩ := args2 ok
  have hg : gIx [ra.fz, rb.fz] = some z := hg
  generalize e1 : ra.fz = a at hg
  generalize e2 : rb.fz = b at hg
  unfold gIx at hg
  split at hg
  · rename_i xs i e
    cases e
    obtain ⟨d, hd, rfl⟩ := Option.map_eq_some_iff.mp hg
    obtain ⟨p, vs, rfl, hp, r1⟩ := own_lst w1 ok.sub e1
    obtain ⟨w, hw, rw_⟩ := reps_atI r1 hd
    exact .inl ⟨p, vs, i, w, rfl, own_int w2 e2, SqL.of hp, hw, post_d h2 ok k rw_⟩
  · rename_i xs i e
    cases e
    obtain ⟨d, hd, rfl⟩ := Option.map_eq_some_iff.mp hg
    obtain ⟨p, vs, rfl, hp, r1⟩ := own_tup w1 ok.sub e1
    obtain ⟨w, hw, rw_⟩ := reps_atI r1 hd
    exact .inr (.inl ⟨p, vs, i, w, rfl, own_int w2 e2, hp, hw, post_d h2 ok k rw_⟩)
  · rename_i xs i e
    cases e
    obtain ⟨d, hd, rfl⟩ := Option.map_eq_some_iff.mp hg
    obtain ⟨p, vs, rfl, hp, r1⟩ := own_scr w1 ok.sub e1
    obtain ⟨w, hw, rw_⟩ := reps_atI r1 hd
    exact .inl ⟨p, vs, i, w, rfl, own_int w2 e2, hp, hw, post_d h2 ok k rw_⟩
  · rename_i xs i e
    cases e
    by_cases hz : xs.length ≤ sizeLine
    · rw [if_pos hz] at hg
      obtain ⟨d, hd, rfl⟩ := Option.map_eq_some_iff.mp hg
      exact .inr (.inr ⟨xs, i, d, own_str w1 e1, own_int w2 e2, hz, hd, post_d h2 ok k .str⟩)
    · rw [if_neg hz] at hg; cases hg
  · cases hg
end
end Mp
namespace Mp
open PySem PySem.Spec PyProof.Rows L2
/-! ### == of data -/
def toV : D → Option V
  | .non => some .non
  | .bl b => some (.bl b)
  | .int i => some (.int i)
  | .str s => some (.str s)
  | _ => none
def pairs (f : D → D → Option Bool) : List D → List D → Option Bool
  | x :: xs, y :: ys => match f x y with
    | some a => (pairs f xs ys).map (a && ·)
    | none => none
  | _, _ => some true
def isSeq : D → Bool
  | .lst _ => true
  | .tup _ => true
  | _ => false
def eqN : Nat → D → D → Option Bool
  | 0, _, _ => none
  | n + 1, a, b => match toV a with
    | some x => (match toV b with
      | some y => some (eqV x y)
      | none => if isSeq b then some false else none)
    | none => match toV b with
      | some _ => if isSeq a then some false else none
      | none => match a, b with
        | .lst xs, .lst ys => if xs.length = ys.length then pairs (eqN n) xs ys else some false
        | .tup xs, .tup ys => (pairs (eqN n) xs ys).map (· && xs.length == ys.length)
        | .lst _, .tup _ => some false
        | .tup _, .lst _ => some false
        | _, _ => none
def pe (f : D → D → Option Bool) (xs ys : List D) (j : Nat) : Bool := match xs[j]?, ys[j]? with
  | some x, some y => (f x y).getD false
  | _, _ => false
theorem pairs_all {f : D → D → Option Bool} : ∀ {xs ys : List D} {k : Bool}, pairs f xs ys = some k → (∀ (j : Nat) (x y : D), xs[j]? = some x → ys[j]? = some y → ∃ b, f x y = some b ∧ pe f xs ys j = b) ∧ (List.range (min xs.length ys.length)).all (pe f xs ys) = k
  | [], ys, k, h => by
    refine ⟨fun j x y e => by simp at e, ?_⟩
    cases h
    simp
  | x :: xs, [], k, h => by
    refine ⟨fun j x y e1 e2 => by simp at e2, ?_⟩
    cases h
    simp
  | x :: xs, y :: ys, k, h => by
    unfold pairs at h
    cases q : f x y with
    | none => rw [q] at h; cases h
    | some a =>
      rw [q] at h
      obtain ⟨k', h', rfl⟩ := Option.map_eq_some_iff.mp h
      obtain ⟨h1, h2⟩ := pairs_all h'
      refine ⟨fun j x' y' e1 e2 => ?_, ?_⟩
      · cases j with
        | zero =>
          simp at e1 e2
          subst e1 e2
          exact ⟨a, q, by simp [pe, q]⟩
        | succ j =>
          simp at e1 e2
          obtain ⟨b, hb, e⟩ := h1 j x' y' e1 e2
          exact ⟨b, hb, by simp only [pe, List.getElem?_cons_succ]; exact e⟩
      · have e : min (x :: xs).length (y :: ys).length = min xs.length ys.length + 1 := by simp [Nat.succ_min_succ]
        rw [e, List.range_succ_eq_map, List.all_cons, List.all_map]
        have e1 : pe f (x :: xs) (y :: ys) 0 = a := by simp [pe, q]
        have e2 : ((pe f (x :: xs) (y :: ys)) ∘ Nat.succ) = pe f xs ys := by
          funext j
          simp [pe]
        rw [e1, e2, h2]
section
variable {X : Cx} {pins : List (Addr × Obj)} {σ : L2.St} {H : Hp} {s : Shared}
theorem toV_rep {K : PySem.W.Frag} {mg : Str → Option Value} {x y : V} {d : D} (r : Rep K mg H x d) (e : toV d = some y) : x = y ∧ flatV x = true := by
  cases r with
  | non => cases e; exact ⟨rfl, rfl⟩
  | bl => cases e; exact ⟨rfl, rfl⟩
  | int => cases e; exact ⟨rfl, rfl⟩
  | str => cases e; exact ⟨rfl, rfl⟩
  | _ => cases e
theorem eqV_refl : ∀ {x : V}, flatV x = true → eqV x x = true := fun {x} h => by
  cases x with
  | non => rfl
  | bl b => simp [eqV]
  | int i => simp [eqV]
  | str z => simp [eqV]
  | _ => cases h
theorem flat_seq {A : Around} {x : V} {d : D} {v u : Value} {z : V} (I : Inv X pins σ H s) (hu : A.units < cLine) (r : Rep X.K X.mg H x d) (hd : isSeq d = true) (rx : RelV x v) (rz : RelV z u) (fz : flatV z = true) : SeqAt.EqAt A s v u false ∧ SeqAt.EqAt A s u v false := by
  cases r with
  | lst q rs =>
    cases rx
    obtain ⟨its, _, pl, _⟩ := I.list (SqL.of q)
    have hl := pl.isList
    cases z with
    | non => cases rz; exact ⟨.list_none hl hu, .none_list hl hu⟩
    | bl b => cases rz; exact ⟨.list_bool b hl hu, .bool_list b hl hu⟩
    | int b => obtain ⟨t, rfl⟩ := rz; exact ⟨.list_int b t hl hu, .int_list b t hl hu⟩
    | str b => obtain ⟨t, rfl⟩ := rz; exact ⟨.list_str b t hl hu, .str_list b t hl hu⟩
    | _ => cases fz
  | tup q rs =>
    cases rx
    obtain ⟨its, _, hl, _⟩ := I.tuple q
    have hl : s.heap.IsTuple _ its.toArray := hl
    cases z with
    | non => cases rz; exact ⟨.tuple_none hl hu, .none_tuple hl hu⟩
    | bl b => cases rz; exact ⟨.tuple_bool b hl hu, .bool_tuple b hl hu⟩
    | int b => obtain ⟨t, rfl⟩ := rz; exact ⟨.tuple_int b t hl hu, .int_tuple b t hl hu⟩
    | str b => obtain ⟨t, rfl⟩ := rz; exact ⟨.tuple_str b t hl hu, .str_tuple b t hl hu⟩
    | _ => cases fz
  | _ => cases hd
theorem pe_at {f : D → D → Option Bool} {xs ys : List D} {k : Bool} (h : pairs f xs ys = some k) : (List.range (min xs.length ys.length)).all (pe f xs ys) = k := (pairs_all h).2
theorem vals_at {xs : List V} {us : List Value} (r : Vals xs us) {j : Nat} (h1 : j < xs.length) (h2 : j < us.length) : RelV xs[j] us[j] := by
  obtain ⟨u, e, q⟩ := r.get (i := j) (x := xs[j]) (by simp [h1])
  rw [List.getElem?_eq_getElem h2] at e
  cases e
  exact q
theorem vals_inj : ∀ {xs ys : List V} {us : List Value}, Vals xs us → Vals ys us → xs = ys
  | _, _, _, .nil, .nil => rfl
  | _, _, _, .cons r rs, .cons r' rs' => by rw [r.inj r', vals_inj rs rs']
theorem tup_inj {a : Addr} {xs ys : List V} (I : Inv X pins σ H s) (h : SqT X.K H a xs) (h' : SqT X.K H a ys) : xs = ys := by
  obtain ⟨us, r, p, _⟩ := I.tuple h
  obtain ⟨us', r', p', _⟩ := I.tuple h'
  obtain ⟨o, ho, hc, n, hd⟩ := (show s.heap.IsTuple a us.toArray from p)
  obtain ⟨o', ho', hc', n', hd'⟩ := (show s.heap.IsTuple a us'.toArray from p')
  rw [ho] at ho'; cases ho'
  rw [hd] at hd'
  have e : us.toArray = us'.toArray := by injection hd'
  have e : us = us' := by simpa using congrArg Array.toList e
  subst e
  exact vals_inj r r'
theorem lst_tup_ne {a : Addr} {xs ys : List V} (I : Inv X pins σ H s) (h : H a = some (.lst xs)) (h' : SqT X.K H a ys) : False := by
  obtain ⟨us, r, p, _⟩ := I.list (SqL.of h)
  obtain ⟨us', r', p', _⟩ := I.tuple h'
  exact SeqAt.ne_of_list_tuple p.isList (show s.heap.IsTuple a us'.toArray from p') rfl
theorem eqN_same (I : Inv X pins σ H s) : ∀ (n : Nat) {x : V} {a b : D} {k : Bool}, Rep X.K X.mg H x a → Rep X.K X.mg H x b → eqN n a b = some k → k = true
  | 0, _, _, _, _, _, _, h => by cases h
  | n + 1, x, a, b, k, r1, r2, h => by
    have go : ∀ {vs : List V} {xs ys : List D} {k : Bool}, Reps X.K X.mg H vs xs → Reps X.K X.mg H vs ys → pairs (eqN n) xs ys = some k → k = true := fun {vs} => by
      induction vs with
      | nil => intro xs ys k s1 s2 h; cases s1; cases s2; cases h; rfl
      | cons v vs ih =>
        intro xs ys k s1 s2 h
        cases s1 with
        | cons q1 s1 =>
          cases s2 with
          | cons q2 s2 =>
            unfold pairs at h
            split at h
            · rename_i e
              obtain ⟨k', h', rfl⟩ := Option.map_eq_some_iff.mp h
              rw [eqN_same I n q1 q2 e, ih s1 s2 h']
              rfl
            · cases h
    unfold eqN at h
    cases ta : toV a with
    | some xa =>
      rw [ta] at h
      obtain ⟨rfl, fa⟩ := toV_rep r1 ta
      cases tb : toV b with
      | some yb =>
        rw [tb] at h
        obtain ⟨rfl, fb⟩ := toV_rep r2 tb
        cases h
        exact eqV_refl fa
      | none =>
        rw [tb] at h
        cases r2 with
        | lst _ _ => cases fa
        | tup _ _ => cases fa
        | _ => first | (simp [isSeq] at h; done) | (simp [toV] at tb; done)
    | none =>
      rw [ta] at h
      cases tb : toV b with
      | some yb =>
        rw [tb] at h
        obtain ⟨rfl, fb⟩ := toV_rep r2 tb
        cases r1 with
        | lst _ _ => cases fb
        | tup _ _ => cases fb
        | _ => first | (simp [isSeq] at h; done) | (simp [toV] at ta; done)
      | none =>
        rw [tb] at h
        cases r1 with
        | lst q1 s1 =>
          cases r2 with
          | lst q2 s2 =>
            rw [q1] at q2; cases q2
            simp only at h
            rw [if_pos (by rw [← s1.length, ← s2.length])] at h
            exact go s1 s2 h
          | tup q2 s2 => exact (lst_tup_ne I q1 q2).elim
          | _ => first | (simp at h; done) | (simp [toV] at tb; done)
        | tup q1 s1 =>
          cases r2 with
          | lst q2 s2 => exact (lst_tup_ne I q2 q1).elim
          | tup q2 s2 =>
            have e := tup_inj I q1 q2
            subst e
            simp only at h
            obtain ⟨k', h', rfl⟩ := Option.map_eq_some_iff.mp h
            rw [go s1 s2 h', ← s1.length, ← s2.length]
            simp
          | _ => first | (simp at h; done) | (simp [toV] at tb; done)
        | _ => first | (simp at h; done) | (simp [toV] at ta; done)
/-- the two, by ==, and as items of a row -/
theorem eqN_rc (I : Inv X pins σ H s) : ∀ (n : Nat) (A : Around), A.units + n < cLine → ∀ {x y : V} {a b : D} {v u : Value} {k : Bool}, Rep X.K X.mg H x a → Rep X.K X.mg H y b → eqN n a b = some k → RelV x v → RelV y u →
    SeqAt.EqAt A s v u k ∧ (toV a = none → toV b = none → SeqAt.RcAt A s v u k ∧ SeqAt.RcNeAt A s v u (!k))
  | 0, _, _, _, _, _, _, _, _, _, _, _, h, _, _ => by cases h
  | n + 1, A, hu, x, y, a, b, v, u, k, r1, r2, h, rx, ry => by
    have hu0 : A.units < cLine := by omega
    have items : ∀ {vs ws : List V} {xs ys : List D} {us us' : List Value} {k : Bool}, Reps X.K X.mg H vs xs → Reps X.K X.mg H ws ys → Vals vs us → Vals ws us' → pairs (eqN n) xs ys = some k →
        ∀ (j : Nat) (h1 : j < us.toArray.size) (h2 : j < us'.toArray.size), SeqAt.EqAt A.in1 s us.toArray[j] us'.toArray[j] (pe (eqN n) xs ys j) := fun {vs ws xs ys us us' k} s1 s2 t1 t2 h j h1 h2 => by
      have l1 : j < us.length := by simpa using h1
      have l2 : j < us'.length := by simpa using h2
      have lv1 : j < vs.length := by rw [t1.length]; exact l1
      have lv2 : j < ws.length := by rw [t2.length]; exact l2
      obtain ⟨dx, ex, qx⟩ := s1.getV (i := j) (v := vs[j]) (by simp [lv1])
      obtain ⟨dy, ey, qy⟩ := s2.getV (i := j) (v := ws[j]) (by simp [lv2])
      obtain ⟨b, hb, e⟩ := (pairs_all h).1 j dx dy ex ey
      rw [e]
      have := (eqN_rc I n A.in1 (by show A.units + 1 + n < cLine; omega) qx qy hb (vals_at t1 lv1 l1) (vals_at t2 lv2 l2)).1
      simpa using this
    unfold eqN at h
    cases ta : toV a with
    | some xa =>
      rw [ta] at h
      obtain ⟨rfl, fa⟩ := toV_rep r1 ta
      cases tb : toV b with
      | some yb =>
        rw [tb] at h
        obtain ⟨rfl, fb⟩ := toV_rep r2 tb
        cases h
        exact ⟨eqAt_V rx ry fa fb, fun z => nomatch z⟩
      | none =>
        rw [tb] at h
        by_cases hs : isSeq b = true
        · simp only [if_pos hs] at h; cases h
          exact ⟨(flat_seq I hu0 r2 hs ry rx fa).2, fun z => nomatch z⟩
        · simp only [if_neg hs] at h; cases h
    | none =>
      rw [ta] at h
      cases tb : toV b with
      | some yb =>
        rw [tb] at h
        obtain ⟨rfl, fb⟩ := toV_rep r2 tb
        by_cases hs : isSeq a = true
        · simp only [if_pos hs] at h; cases h
          exact ⟨(flat_seq I hu0 r1 hs rx ry fb).1, fun _ z => nomatch z⟩
        · simp only [if_neg hs] at h; cases h
      | none =>
        have hsame : x = y → k = true := fun e => by
          subst e
          exact eqN_same I (n + 1) r1 r2 (by unfold eqN; rw [ta, tb]; rw [tb] at h; exact h)
        rw [tb] at h
        have fin : ∀ {p q : Addr}, x = .ref p → y = .ref q → SeqAt.RcAt A s (.ref p) (.ref q) k → SeqAt.RcNeAt A s (.ref p) (.ref q) (!k) → SeqAt.EqAt A s v u k ∧ ((none : Option V) = none → (none : Option V) = none → SeqAt.RcAt A s v u k ∧ SeqAt.RcNeAt A s v u (!k)) := fun {p q} e1 e2 rc rn => by
          subst e1 e2
          cases rx
          cases ry
          refine ⟨?_, fun _ _ => ⟨rc, rn⟩⟩
          by_cases e : p = q
          · subst e
            rw [hsame rfl]
            exact SeqAt.EqAt.same _
          · exact SeqAt.EqAt.of_refs e rc
        cases r1 with
        | lst q1 s1 =>
          rename_i p0 vs xs
          obtain ⟨us, t1, p1, _⟩ := I.list (SqL.of q1)
          cases r2 with
          | lst q2 s2 =>
            rename_i q0 ws ys
            obtain ⟨us', t2, p2, _⟩ := I.list (SqL.of q2)
            simp only at h
            have z1 : us.toArray.size = xs.length := by rw [List.size_toArray, ← t1.length, s1.length]
            have z2 : us'.toArray.size = ys.length := by rw [List.size_toArray, ← t2.length, s2.length]
            by_cases hl : xs.length = ys.length
            · rw [if_pos hl] at h
              have e := pe_at h
              have this := SeqAt.RcAt.lists (A := A) p1.isList p2.isList (by rw [z1, z2, hl]) hu0 (items s1 s2 t1 t2 h)
              have that := SeqAt.RcNeAt.lists (A := A) p1.isList p2.isList (by rw [z1, z2, hl]) hu0 (items s1 s2 t1 t2 h)
              rw [z1, show xs.length = min xs.length ys.length by omega, e] at this that
              exact fin rfl rfl this that
            · rw [if_neg hl] at h
              cases h
              exact fin rfl rfl (SeqAt.RcAt.lists_lengths p1.isList p2.isList (by rw [z1, z2]; simpa using hl) hu0) (SeqAt.RcNeAt.lists_lengths p1.isList p2.isList (by rw [z1, z2]; simpa using hl) hu0)
          | tup q2 s2 =>
            rename_i q0 ws ys
            obtain ⟨us', t2, p2, _⟩ := I.tuple q2
            simp only at h
            cases h
            exact fin rfl rfl (SeqAt.RcAt.list_tuple p1.isList (show s.heap.IsTuple _ us'.toArray from p2) hu0) (SeqAt.RcNeAt.list_tuple p1.isList (show s.heap.IsTuple _ us'.toArray from p2) hu0)
          | _ => first | (simp at h; done) | (simp [toV] at tb; done)
        | tup q1 s1 =>
          rename_i p0 vs xs
          obtain ⟨us, t1, p1, _⟩ := I.tuple q1
          have p1 : s.heap.IsTuple _ us.toArray := p1
          cases r2 with
          | lst q2 s2 =>
            rename_i q0 ws ys
            obtain ⟨us', t2, p2, _⟩ := I.list (SqL.of q2)
            simp only at h
            cases h
            exact fin rfl rfl (SeqAt.RcAt.tuple_list p1 p2.isList hu0) (SeqAt.RcNeAt.tuple_list p1 p2.isList hu0)
          | tup q2 s2 =>
            rename_i q0 ws ys
            obtain ⟨us', t2, p2, _⟩ := I.tuple q2
            simp only at h
            obtain ⟨k', h', rfl⟩ := Option.map_eq_some_iff.mp h
            have z1 : us.toArray.size = xs.length := by rw [List.size_toArray, ← t1.length, s1.length]
            have z2 : us'.toArray.size = ys.length := by rw [List.size_toArray, ← t2.length, s2.length]
            have := SeqAt.RcAt.tuples (A := A) p1 (show s.heap.IsTuple _ us'.toArray from p2) hu0 (items s1 s2 t1 t2 h')
            have that := SeqAt.RcNeAt.tuples (A := A) p1 (show s.heap.IsTuple _ us'.toArray from p2) hu0 (items s1 s2 t1 t2 h')
            rw [z1, z2, pe_at h'] at this that
            exact fin rfl rfl this that
          | _ => first | (simp at h; done) | (simp [toV] at tb; done)
        | _ => first | (simp at h; done) | (simp [toV] at ta; done)
end
end Mp
namespace Mp
open PySem PySem.Spec PyProof.Rows L2
mutual
def pureD : D → Bool
  | .non => true
  | .bl _ => true
  | .int _ => true
  | .str _ => true
  | .lst xs => pureDs xs
  | .tup xs => pureDs xs
  | _ => false
def pureDs : List D → Bool
  | [] => true
  | x :: xs => pureD x && pureDs xs
end
section
variable {c : CC} {X : Cx} {pins : List (Addr × Obj)} {σ : L2.St} {H : Hp} {s : Shared}
mutual
theorem rep_inj (I : Inv X pins σ H s) : ∀ (d d' : D) (v : V), pureD d = true → pureD d' = true → Rep X.K X.mg H v d → Rep X.K X.mg H v d' → d = d'
  | .non, d', v, _, p, r, r' => by cases r; cases r' <;> rfl
  | .bl b, d', v, _, p, r, r' => by cases r; cases r' <;> rfl
  | .int b, d', v, _, p, r, r' => by cases r; cases r' <;> rfl
  | .str b, d', v, _, p, r, r' => by cases r; cases r' <;> rfl
  | .ty _, _, _, q, _, _, _ => by cases q
  | .glo _, _, _, q, _, _, _ => by cases q
  | .dic _, _, _, q, _, _, _ => by cases q
  | .ins _ _, _, _, q, _, _, _ => by cases q
  | .lst xs, d', v, q, p, r, r' => by
    cases r with
    | lst q1 s1 =>
      cases r' with
      | lst q2 s2 => rw [q1] at q2; cases q2; rw [reps_inj I xs _ _ q p s1 s2]
      | tup q2 s2 => exact (lst_tup_ne I q1 q2).elim
      | _ => cases p
  | .tup xs, d', v, q, p, r, r' => by
    cases r with
    | tup q1 s1 =>
      cases r' with
      | lst q2 s2 => exact (lst_tup_ne I q2 q1).elim
      | tup q2 s2 => have e := tup_inj I q1 q2; subst e; rw [reps_inj I xs _ _ q p s1 s2]
      | _ => cases p
theorem reps_inj (I : Inv X pins σ H s) : ∀ (d d' : List D) (v : List V), pureDs d = true → pureDs d' = true → Reps X.K X.mg H v d → Reps X.K X.mg H v d' → d = d'
  | [], d', v, _, p, r, r' => by cases r; cases r'; rfl
  | x :: xs, d', v, q, p, r, r' => by
    cases r with
    | cons q1 s1 =>
      cases r' with
      | cons q2 s2 =>
        simp only [pureDs, Bool.and_eq_true] at q p
        rw [rep_inj I x _ _ q.1 p.1 q1 q2, reps_inj I xs _ _ q.2 p.2 s1 s2]
end
def gEq2 (a b : D) : Option Bool := match toV a with
  | some x => (match toV b with
    | some y => if scal x y = true then some (decide (x = y)) else none
    | none => none)
  | none => match toV b with
    | some _ => none
    | none => eqN 60 a b
def gEq : List D → Option RV
  | [a, b] => (gEq2 a b).map fun k => .d (.bl k)
  | _ => none
def gNe : List D → Option RV
  | [a, b] => (gEq2 a b).map fun k => .d (.bl !k)
  | _ => none
theorem own_view {K : PySem.W.Frag} {mg : Str → Option Value} {Hs H : Hp} {v : V} {rv : RV} (w : Own K mg Hs H v rv) (s : Same Hs H) (h : toV rv.fz ≠ none ∨ isSeq rv.fz = true) : Rep K mg H v rv.fz := by
  cases rv with
  | d d => exact Rep.mono s w
  | olst xs => obtain ⟨a, vs, rfl, q, _, r⟩ := w; exact .lst q (r.mono s)
  | odic xs => rcases h with h | h <;> simp [RV.fz, toV, isSeq] at h
  | oins _ xs => rcases h with h | h <;> simp [RV.fz, toV, isSeq] at h
theorem eqN_seq {n : Nat} {a b : D} {k : Bool} (h : eqN n a b = some k) (ha : toV a = none) (hb : toV b = none) : isSeq a = true ∧ isSeq b = true := by
  cases n with
  | zero => cases h
  | succ n =>
    unfold eqN at h
    rw [ha, hb] at h
    simp only at h
    split at h <;> first | exact ⟨rfl, rfl⟩ | cases h
theorem seq_ref {v : V} {d : D} (h : isSeq d = true) (r : Rep X.K X.mg H v d) : ∃ p, v = .ref p := by
  cases r with
  | lst _ _ => exact ⟨_, rfl⟩
  | tup _ _ => exact ⟨_, rfl⟩
  | _ => cases h
/-- what gEq2 says, of two values -/
theorem eq_run {A : Around} {Hs : Hp} {x y : V} {v u : Value} {ra rb : RV} {k : Bool} (hu : A.units + 64 < cLine) (I : Inv X pins σ H s) (sm : Same Hs H) (w1 : Own X.K X.mg Hs H x ra) (w2 : Own X.K X.mg Hs H y rb) (rx : RelV x v) (ry : RelV y u) (hg : gEq2 ra.fz rb.fz = some k) :
    (scal x y = true ∧ k = decide (x = y)) ∨ (∃ p q, x = .ref p ∧ y = .ref q ∧ SeqAt.RcAt A s (.ref p) (.ref q) k ∧ SeqAt.RcNeAt A s (.ref p) (.ref q) (!k)) := by
  unfold gEq2 at hg
  cases ta : toV ra.fz with
  | some a =>
    rw [ta] at hg
    cases tb : toV rb.fz with
    | some b =>
      rw [tb] at hg
      simp only at hg
      by_cases hs : scal a b = true
      · rw [if_pos hs] at hg; cases hg
        obtain ⟨rfl, _⟩ := toV_rep (own_view w1 sm (.inl (by rw [ta]; simp))) ta
        obtain ⟨rfl, _⟩ := toV_rep (own_view w2 sm (.inl (by rw [tb]; simp))) tb
        exact .inl ⟨hs, rfl⟩
      · rw [if_neg hs] at hg; cases hg
    | none => rw [tb] at hg; cases hg
  | none =>
    rw [ta] at hg
    cases tb : toV rb.fz with
    | some b => rw [tb] at hg; cases hg
    | none =>
      rw [tb] at hg
      simp only at hg
      obtain ⟨s1, s2⟩ := eqN_seq hg ta tb
      have r1 := own_view w1 sm (.inr s1)
      have r2 := own_view w2 sm (.inr s2)
      have rc := (eqN_rc I 60 A (by omega) r1 r2 hg rx ry).2 ta tb
      obtain ⟨p, rfl⟩ := seq_ref s1 r1
      obtain ⟨q, rfl⟩ := seq_ref s2 r2
      cases rx
      cases ry
      exact .inr ⟨p, q, rfl, rfl, rc.1, rc.2⟩
theorem InC.units64 (i : InC c X) : X.A.units + 64 < cLine := by have := i.room.un; omega
theorem k_eq : PrimOk c (.cmp .Eq) (funD gEq) := fun X ic => by
  intro pins s σ H x y v u Q I rx ry q
  obtain ⟨Hs, rvs, Kq, ok, ⟨z, hg, k⟩, h2⟩ := q
  obtain ⟨ra, rb, rfl, w1, w2⟩ := args2 ok
  obtain ⟨k0, hg1, rfl⟩ := Option.map_eq_some_iff.mp (show (gEq2 ra.fz rb.fz).map (fun k => RV.d (.bl k)) = some z from hg)
  rcases eq_run (A := X.A) ic.units64 I ok.sub w1 w2 rx ry hg1 with ⟨hs, rfl⟩ | ⟨p, q, rfl, rfl, rc, _⟩
  · exact op_eq pins s σ H _ _ v u Q I rx ry ⟨hs, post_d h2 ok k .bl⟩
  · cases rx; cases ry
    exact rc _ _ _ _ ⟨.bl _, H, I, rfl, post_d h2 ok k .bl⟩
theorem k_ne : PrimOk c (.cmp .NotEq) (funD gNe) := fun X ic => by
  intro pins s σ H x y v u Q I rx ry q
  obtain ⟨Hs, rvs, Kq, ok, ⟨z, hg, k⟩, h2⟩ := q
  obtain ⟨ra, rb, rfl, w1, w2⟩ := args2 ok
  obtain ⟨k0, hg1, rfl⟩ := Option.map_eq_some_iff.mp (show (gEq2 ra.fz rb.fz).map (fun k => RV.d (.bl !k)) = some z from hg)
  rcases eq_run (A := X.A) ic.units64 I ok.sub w1 w2 rx ry hg1 with ⟨hs, rfl⟩ | ⟨p, q, rfl, rfl, _, rc⟩
  · exact op_ne pins s σ H _ _ v u Q I rx ry ⟨hs, post_d h2 ok k .bl⟩
  · cases rx; cases ry
    exact rc _ _ _ _ ⟨.bl _, H, I, rfl, post_d h2 ok k .bl⟩
/-! ### x in xs -/
def inN (a : D) : List D → Option Bool
  | [] => some false
  | y :: ys => if pureD y = true then (match eqN 60 y a with
    | some b => (inN a ys).map (b || ·)
    | none => none) else none
theorem inN_all {a : D} : ∀ {ys : List D} {k : Bool}, inN a ys = some k → pureDs ys = true ∧ (∀ (j : Nat) (y : D), ys[j]? = some y → ∃ b, eqN 60 y a = some b) ∧ (ys.any fun y => (eqN 60 y a).getD false) = k
  | [], k, h => by cases h; exact ⟨rfl, fun j y e => by simp at e, rfl⟩
  | y :: ys, k, h => by
    unfold inN at h
    by_cases hp : pureD y = true
    · rw [if_pos hp] at h
      cases q : eqN 60 y a with
      | none => rw [q] at h; cases h
      | some b =>
        rw [q] at h
        obtain ⟨k', h', rfl⟩ := Option.map_eq_some_iff.mp h
        obtain ⟨p1, p2, p3⟩ := inN_all h'
        refine ⟨by simp [pureDs, hp, p1], fun j y' e => ?_, by rw [List.any_cons, q, p3]; rfl⟩
        cases j with
        | zero => simp at e; subst e; exact ⟨b, q⟩
        | succ j => exact p2 j y' (by simpa using e)
    · rw [if_neg hp] at h; cases h
/-- the items of a row by == -/
theorem in_items (I : Inv X pins σ H s) {A : Around} (hu : A.units + 64 < cLine) {a : D} {x : V} {v : Value} {ys : List D} {k : Bool} {vs : List V} {us : List Value} (h : inN a ys = some k) (r : Reps X.K X.mg H vs ys) (ra : Rep X.K X.mg H x a) (rx : RelV x v) (t : Vals vs us) :
    ∃ e : Value → Bool, (∀ y, y ∈ us.toArray → SeqAt.EqAt A.in1 s y v (e y)) ∧ us.toArray.any e = k := by
  obtain ⟨p1, p2, p3⟩ := inN_all h
  have look : ∀ (j : Nat) (u : Value), us[j]? = some u → ∃ w d, vs[j]? = some w ∧ ys[j]? = some d ∧ RelV w u ∧ Rep X.K X.mg H w d ∧ pureD d = true ∧ ∃ b, eqN 60 d a = some b := fun j u e => by
    have l1 : j < us.length := (List.getElem?_eq_some_iff.mp e).1
    have l2 : j < vs.length := by rw [t.length]; exact l1
    obtain ⟨d, ed, rd⟩ := r.getV (i := j) (v := vs[j]) (by simp [l2])
    have hr := vals_at t l2 l1
    rw [List.getElem?_eq_getElem l1] at e
    cases e
    have pd : pureD d = true := by
      have : ∀ {ys : List D} {j : Nat} {d : D}, pureDs ys = true → ys[j]? = some d → pureD d = true := fun {ys} => by
        induction ys with
        | nil => intro j d _ e; simp at e
        | cons y ys ih =>
          intro j d p e
          simp only [pureDs, Bool.and_eq_true] at p
          cases j with
          | zero => simp at e; subst e; exact p.1
          | succ j => exact ih p.2 (by simpa using e)
      exact this p1 ed
    exact ⟨vs[j], d, by simp [l2], ed, hr, rd, pd, p2 j d ed⟩
  have uniq : ∀ (i j : Nat) (u : Value) (d d' : D), us[i]? = some u → us[j]? = some u → ys[i]? = some d → ys[j]? = some d' → d = d' := fun i j u d d' e1 e2 q1 q2 => by
    obtain ⟨w, d1, _, g1, h1, r1, n1, _⟩ := look i u e1
    obtain ⟨w', d2, _, g2, h2, r2, n2, _⟩ := look j u e2
    rw [g1] at q1; cases q1
    rw [g2] at q2; cases q2
    have := h1.inj h2
    subst this
    exact rep_inj I _ _ _ n1 n2 r1 r2
  classical
  refine ⟨fun y => if h : ∃ j : Nat, us[j]? = some y then (match ys[Classical.choose h]? with | some d => (eqN 60 d a).getD false | none => false) else false, fun y hy => ?_, ?_⟩
  · have hm : ∃ j, us[j]? = some y := List.mem_iff_getElem?.mp (by simpa using hy)
    simp only [dif_pos hm]
    obtain ⟨w, d, _, g, hr, rd, _, b, hb⟩ := look _ y (Classical.choose_spec hm)
    rw [g]
    show SeqAt.EqAt A.in1 s y v ((eqN 60 d a).getD false)
    rw [hb]
    exact (eqN_rc I 60 A.in1 (by show A.units + 1 + 60 < cLine; omega) rd ra hb hr rx).1
  · rw [← p3, Bool.eq_iff_iff]
    simp only [List.any_toArray, List.any_eq_true]
    constructor
    · rintro ⟨y, hy, e⟩
      have hm : ∃ j, us[j]? = some y := List.mem_iff_getElem?.mp hy
      rw [dif_pos hm] at e
      obtain ⟨w, d, _, g, _⟩ := look _ y (Classical.choose_spec hm)
      rw [g] at e
      exact ⟨d, List.mem_of_getElem? g, e⟩
    · rintro ⟨d, hd, e⟩
      obtain ⟨j, hj⟩ := List.mem_iff_getElem?.mp hd
      have lj : j < ys.length := (List.getElem?_eq_some_iff.mp hj).1
      have lu : j < us.length := by rw [← t.length, r.length]; exact lj
      have ej : us[j]? = some us[j] := by simp [lu]
      refine ⟨us[j], List.getElem_mem lu, ?_⟩
      have hm : ∃ i, us[i]? = some us[j] := ⟨j, ej⟩
      rw [dif_pos hm]
      obtain ⟨w, d', _, g, _⟩ := look _ _ (Classical.choose_spec hm)
      rw [g]
      rw [uniq _ _ _ _ _ (Classical.choose_spec hm) ej g hj]
      exact e
theorem valV_some {K : PySem.W.Frag} {mg : Str → Option Value} {H : Hp} {k : Key} : ∀ {ks : List (Key × V)} {kvs : List (Key × D)}, RepK K mg H ks kvs → (valV ks k).isSome = (getD kvs k).isSome
  | _, _, .nil => rfl
  | _, _, .cons (k := k') q r => by
    have ih := valV_some (k := k) r
    unfold valV getD at ih ⊢
    simp only [List.find?_cons]
    by_cases h : k' = k
    · simp [h]
    · simp only [h, decide_false]
      exact ih
def gIn2 (a b : D) : Option Bool := match b with
  | .lst ys => inN a ys
  | .tup ys => inN a ys
  | .str z => (match a with
    | .str y => (match y.cps.toList with
      | [k] => some (decide (k ∈ z.cps.toList))
      | _ => some (!(Builtin.Str.occurrences z y 0 z.length 1).isEmpty))
    | _ => none)
  | .dic kvs => (keyOf a).map fun k => (getD kvs k).isSome
  | _ => none
def gIn : List D → Option RV
  | [a, b] => (gIn2 a b).map fun k => .d (.bl k)
  | _ => none
def gNin : List D → Option RV
  | [a, b] => (gIn2 a b).map fun k => .d (.bl !k)
  | _ => none
theorem inN_val {a : D} {ys : List D} {k : Bool} (h : inN a ys = some k) (hn : ys ≠ []) : toV a ≠ none ∨ isSeq a = true := by
  cases ys with
  | nil => exact absurd rfl hn
  | cons y ys =>
    obtain ⟨_, h2, _⟩ := inN_all h
    obtain ⟨b, hb⟩ := h2 0 y rfl
    cases ta : toV a with
    | some _ => exact .inl (by simp)
    | none =>
      refine .inr ?_
      unfold eqN at hb
      cases ty : toV y with
      | some _ =>
        rw [ty, ta] at hb
        simp only at hb
        by_cases hs : isSeq a = true
        · exact hs
        · rw [if_neg hs] at hb; cases hb
      | none => exact (eqN_seq (n := 60) (by unfold eqN; exact hb) ty ta).2
theorem in_run {neg : Bool} {op : CmpOp} (hu : X.A.units + 64 < cLine)
    (hl : ∀ {l : Addr} {items : Array Value} {x : Value} {s : Shared} {Q : Value → Shared → Prop} (e : Value → Bool), s.heap.IsList l items → (∀ y, y ∈ items → SeqAt.EqAt X.A.in1 s y x (e y)) → Q (.bool (if neg then !items.any e else items.any e)) s → wpAny (model X.prog X.w) X.A (compareOp op x (.ref l)) Q X.xe s)
    (ht : ∀ {l : Addr} {items : Array Value} {x : Value} {s : Shared} {Q : Value → Shared → Prop} (e : Value → Bool), s.heap.IsTuple l items → (∀ y, y ∈ items → SeqAt.EqAt X.A.in1 s y x (e y)) → Q (.bool (if neg then !items.any e else items.any e)) s → wpAny (model X.prog X.w) X.A (compareOp op x (.ref l)) Q X.xe s)
    (h1 : OpR X (compareOp op) fun x y H Q => ∃ (k : Nat) (z : Str), x = .str ⟨#[k]⟩ ∧ y = .str z ∧ Q (.bl (if neg then !decide (k ∈ z.cps.toList) else decide (k ∈ z.cps.toList))) H)
    (h2 : OpR X (compareOp op) fun x y H Q => ∃ i j, x = .str i ∧ y = .str j ∧ Q (.bl (if neg then !(!(Builtin.Str.occurrences j i 0 j.length 1).isEmpty) else !(Builtin.Str.occurrences j i 0 j.length 1).isEmpty)) H)
    (hd : ∀ {a : Addr} {y : V} {u : Value} {o : Option V} {pins : List (Addr × Obj)} {σ : L2.St} {H : Hp} {s : Shared} {Q : Value → Shared → Prop}, Inv X pins σ H s → DGet H a y o → RelV y u → (∀ s', Inv X pins σ H s' → Q (.bool (if neg then !o.isSome else o.isSome)) s') → wpAny (model X.prog X.w) X.A (compareOp op u (.ref a)) Q X.xe s) :
    OpR X (compareOp op) fun x y H Q => spD X.K X.mg (funD fun l => match l with | [a, b] => (gIn2 a b).map fun k => .d (.bl (if neg then !k else k)) | _ => none) [x, y] H Q E0 := by
  intro pins s σ H x y v u Q I rx ry q
  obtain ⟨Hs, rvs, Kq, ok, ⟨z, hg, k⟩, h3⟩ := q
  obtain ⟨ra, rb, rfl, w1, w2⟩ := args2 ok
  obtain ⟨k0, hg1, rfl⟩ := Option.map_eq_some_iff.mp (show (gIn2 ra.fz rb.fz).map (fun k => RV.d (.bl (if neg then !k else k))) = some z from hg)
  have fin : EP X pins σ Q (.bool (if neg then !k0 else k0)) s := ⟨.bl _, H, I, rfl, post_d h3 ok k .bl⟩
  have row : ∀ {ys : List D} {vs : List V} {us : List Value}, inN ra.fz ys = some k0 → Reps X.K X.mg Hs vs ys → Vals vs us → ∃ e : Value → Bool, (∀ y, y ∈ us.toArray → SeqAt.EqAt X.A.in1 s y v (e y)) ∧ us.toArray.any e = k0 := fun {ys vs us} h r t => by
    by_cases hn : ys = []
    · subst hn
      cases r
      cases t
      cases h
      exact ⟨fun _ => false, fun y hy => by simp at hy, by simp⟩
    · exact in_items I hu h (r.mono ok.sub) (own_view w1 ok.sub (inN_val h hn)) rx t
  generalize e2 : rb.fz = b at hg1
  unfold gIn2 at hg1
  split at hg1
  · obtain ⟨p, vs, rfl, hp, r⟩ := own_lst w2 ok.sub e2
    cases ry
    obtain ⟨us, t, pl, _⟩ := I.list (SqL.of hp)
    obtain ⟨e, he, ha⟩ := row hg1 r t
    exact hl e pl.isList he (by rw [ha]; exact fin)
  · obtain ⟨p, vs, rfl, hp, r⟩ := own_tup w2 ok.sub e2
    cases ry
    obtain ⟨us, t, pl, _⟩ := I.tuple hp
    obtain ⟨e, he, ha⟩ := row hg1 r t
    exact ht e (show s.heap.IsTuple p us.toArray from pl) he (by rw [ha]; exact fin)
  · rename_i z
    have ey := own_str w2 e2
    generalize e1 : ra.fz = a at hg1
    split at hg1
    · rename_i y
      have ex := own_str w1 e1
      split at hg1
      · rename_i kk hk
        cases hg1
        have : y = ⟨#[kk]⟩ := by
          cases y with
          | mk cps => simp at hk ⊢; exact Array.toList_inj.mp (by simpa using hk)
        subst this
        exact h1 pins s σ H x y v u Q I rx ry ⟨kk, z, ex, ey, post_d h3 ok k .bl⟩
      · cases hg1
        exact h2 pins s σ H x _ v u Q I rx ry ⟨y, z, ex, ey, post_d h3 ok k .bl⟩
    · cases hg1
  · obtain ⟨kk, hk, rfl⟩ := Option.map_eq_some_iff.mp hg1
    obtain ⟨p, ks, rfl, hp, r⟩ := own_dic w2 ok.sub e2
    cases ry
    have ex : x = kV kk := by
      cases ra with
      | d d => exact key_rep hk w1
      | _ => cases hk
    have hv : (valV ks kk).isSome = (getD _ kk).isSome := valV_some r
    refine hd I (.inl ⟨ks, kk, hp, ex, rfl⟩) rx fun s' I' => ⟨.bl _, H, I', rfl, ?_⟩
    rw [hv]
    exact post_d h3 ok k .bl
  · cases hg1
theorem k_in : PrimOk c (.cmp .In) (funD gIn) := fun X ic => by
  have := in_run (X := X) (neg := false) (op := .In) ic.units64 (fun e a b q => SeqAt.in_listAt e a b q) (fun e a b q => SeqAt.in_tupleAt e a b q) op_in_sign op_in_str (fun I g r h => d_in (by have := ic.units64; omega) I g r h)
  exact this
theorem k_nin : PrimOk c (.cmp .NotIn) (funD gNin) := fun X ic => by
  have := in_run (X := X) (neg := true) (op := .NotIn) ic.units64 (fun e a b q => SeqAt.notIn_listAt e a b q) (fun e a b q => SeqAt.notIn_tupleAt e a b q) op_notIn_sign op_notin_str (fun I g r h => d_notIn (by have := ic.units64; omega) I g r h)
  exact this
end
end Mp
namespace Mp
open PySem PySem.Spec PyProof.Rows L2
section
variable {c : CC} {X : Cx}
theorem star_no {e : Expr} (h : ∀ y q, e ≠ .Starred y q) (es : List Expr) (env : PySem.Env) : starEach (e :: es) env = (false, eval e env) :: starEach es env := by
  cases e <;> first | rfl | exact absurd rfl (h _ _)
theorem plain_no (pos : Pos) (env : PySem.Env) : ∀ {es : List Expr}, (∀ e ∈ es, ∀ y q, e ≠ .Starred y q) → (backTo pos (starEach es env)).any (·.1) = false
  | [], _ => rfl
  | e :: es, h => by
    rw [star_no (h e (List.mem_cons_self ..))]
    have := plain_no pos env (es := es) fun e he => h e (List.mem_cons_of_mem _ he)
    unfold backTo at this ⊢
    rw [List.map_cons, List.any_cons, this]
    rfl
/-- a rule of the kit, as a Den -/
theorem cr_of {f : Value} {r : List V → Hp → VK → Prop} {g : List D → Option RV} (h : CallR X f r)
    (i : ∀ (vs : List V) (rvs : List RV) (H Hs : Hp) (Kq : RV → List RV → Prop) (Q : VK) (z : RV), EnvOk X.K X.mg Hs H (vs.map some) (rvs.map some) → g (rvs.map RV.fz) = some z → Kq z rvs → Post X.K X.mg Hs H vs rvs Kq Q → r vs H Q) :
    CallR X f fun vs H Q => spD X.K X.mg (funD g) vs H Q E0 := by
  intro pins s σ H vs us Q I rr q
  obtain ⟨Hs, rvs, Kq, ok, ⟨z, hg, k⟩, h2⟩ := q
  exact h pins s σ H vs us Q I rr (i vs rvs H Hs Kq Q z ok hg k h2)
theorem cb_of {x : Str} {id : String} {dn : Den} (hv : bootBuiltins x = some (.builtin id)) (hn : x ≠ "__name__") (hdb : (x == ("__debug__" : Str)) = false)
    (hm : c.mg x = none) (h : ∀ X, InC c X → CallR X (.builtin id) fun vs H Q => spD X.K X.mg dn vs H Q E0) : PrimOk c (.call x) dn := fun X ic => by
  intro es t p pos hne hg hns ha
  match es, hne with
  | e :: es, _ => exact pe_callB (h X ic) hg (by rw [ic.mg]; exact hm) hv ha hn hdb (star_no (hns e (List.mem_cons_self ..)) es X.env) (plain_no pos X.env fun e he => hns e (List.mem_cons_of_mem _ he))
theorem ct_of {x : Str} {id : String} {dn : Den} (hv : bootBuiltins x = some (.type id)) (hn : x ≠ "__name__") (hdb : (x == ("__debug__" : Str)) = false)
    (hm : c.mg x = none) (h : ∀ X, InC c X → CallR X (.type id) fun vs H Q => spD X.K X.mg dn vs H Q E0) : PrimOk c (.call x) dn := fun X ic => by
  intro es t p pos hne hg hns ha
  match es, hne with
  | e :: es, _ => exact pe_callTy (h X ic) hg (by rw [ic.mg]; exact hm) hv ha hn hdb (star_no (hns e (List.mem_cons_self ..)) es X.env) (plain_no pos X.env fun e he => hns e (List.mem_cons_of_mem _ he))
theorem cr_or {f : Value} {r r' : List V → Hp → VK → Prop} (h : CallR X f r) (h' : CallR X f r') : CallR X f fun vs H Q => r vs H Q ∨ r' vs H Q := by
  intro pins s σ H vs us Q I rr q
  rcases q with q | q
  · exact h pins s σ H vs us Q I rr q
  · exact h' pins s σ H vs us Q I rr q
theorem argsA {K : PySem.W.Frag} {mg : Str → Option Value} {Hs H : Hp} {vs : List V} {rvs : List RV} {a : D} (ok : EnvOk K mg Hs H (vs.map some) (rvs.map some)) (e : rvs.map RV.fz = [a]) : ∃ v ra, vs = [v] ∧ rvs = [ra] ∧ ra.fz = a ∧ Own K mg Hs H v ra := by
  have hl := ok.len
  simp only [List.length_map] at hl
  match rvs, e, vs, hl with
  | [ra], e, [v], _ =>
    obtain ⟨ra', q, w⟩ := args1 ok
    cases q
    exact ⟨v, ra, rfl, rfl, by simpa using e, w⟩
  | [], e, _, _ => cases e
  | _ :: _ :: _, e, _, _ => simp at e
  | [_], e, [], hl => simp at hl
  | [_], e, _ :: _ :: _, hl => simp at hl
theorem argsB {K : PySem.W.Frag} {mg : Str → Option Value} {Hs H : Hp} {vs : List V} {rvs : List RV} {a b : D} (ok : EnvOk K mg Hs H (vs.map some) (rvs.map some)) (e : rvs.map RV.fz = [a, b]) : ∃ v u ra rb, vs = [v, u] ∧ rvs = [ra, rb] ∧ ra.fz = a ∧ rb.fz = b ∧ Own K mg Hs H v ra ∧ Own K mg Hs H u rb := by
  have hl := ok.len
  simp only [List.length_map] at hl
  match rvs, e, vs, hl with
  | [ra, rb], e, [v, u], _ =>
    obtain ⟨ra', rb', q, w⟩ := args2 ok
    cases q
    have e : ra.fz = a ∧ rb.fz = b := by simpa using e
    exact ⟨v, u, ra, rb, rfl, rfl, e.1, e.2, w⟩
  | [], e, _, _ => cases e
  | [_], e, _, _ => simp at e
  | _ :: _ :: _ :: _, e, _, _ => simp at e
  | [_, _], e, [], hl => simp at hl
  | [_, _], e, [_], hl => simp at hl
  | [_, _], e, _ :: _ :: _ :: _, hl => simp at hl
/-! ### len, any, all, int, str, abs, max, min, sum, list, tuple, dict -/
def gLen : List D → Option RV
  | [.lst xs] => some (.d (.int xs.length))
  | [.tup xs] => some (.d (.int xs.length))
  | [.scr xs] => some (.d (.int xs.length))
  | [.str z] => if z.length ≤ sizeLine then some (.d (.int z.length)) else none
  | _ => none
theorem k_len (hm : c.mg "len" = none) : PrimOk c (.call "len") (funD gLen) := cb_of rfl (by decide) (by decide) hm fun X ic =>
  cr_of (cr_or call_len_seq call_len_str) fun vs rvs H Hs Kq Q z ok hg k h2 => by
    generalize e : rvs.map RV.fz = l at hg
    unfold gLen at hg
    split at hg
    · cases hg
      obtain ⟨v, ra, rfl, rfl, e1, w⟩ := argsA ok e
      obtain ⟨p, ys, rfl, hp, r⟩ := own_lst w ok.sub e1
      exact .inl ⟨p, ys, rfl, .inl (SqL.of hp), post_d h2 ok k (by rw [r.length]; exact .int)⟩
    · cases hg
      obtain ⟨v, ra, rfl, rfl, e1, w⟩ := argsA ok e
      obtain ⟨p, ys, rfl, hp, r⟩ := own_tup w ok.sub e1
      exact .inl ⟨p, ys, rfl, .inr hp, post_d h2 ok k (by rw [r.length]; exact .int)⟩
    · cases hg
      obtain ⟨v, ra, rfl, rfl, e1, w⟩ := argsA ok e
      obtain ⟨p, ys, rfl, hp, r⟩ := own_scr w ok.sub e1
      exact .inl ⟨p, ys, rfl, .inl hp, post_d h2 ok k (by rw [r.length]; exact .int)⟩
    · rename_i zz
      obtain ⟨v, ra, rfl, rfl, e1, w⟩ := argsA ok e
      by_cases hz : zz.length ≤ sizeLine
      · rw [if_pos hz] at hg; cases hg
        exact .inr ⟨zz, by rw [own_str w e1], hz, post_d h2 ok k .int⟩
      · rw [if_neg hz] at hg; cases hg
    · cases hg
def bools : List D → Option (List Bool)
  | [] => some []
  | .bl b :: r => (bools r).map (b :: ·)
  | _ => none
theorem bools_rep {K : PySem.W.Frag} {mg : Str → Option Value} {H : Hp} : ∀ {xs : List D} {bs : List Bool} {vs : List V}, bools xs = some bs → Reps K mg H vs xs → vs = bs.map V.bl
  | [], bs, vs, h, r => by cases h; cases r; rfl
  | x :: xs, bs, vs, h, r => by
    cases r with
    | cons q r =>
      cases x with
      | bl b =>
        obtain ⟨bs', h', rfl⟩ := Option.map_eq_some_iff.mp (show (bools xs).map (b :: ·) = some bs from h)
        cases q
        rw [bools_rep h' r]; rfl
      | _ => cases h
def gAny : List D → Option RV
  | [.lst xs] => (bools xs).map fun bs => .d (.bl (bs.any id))
  | _ => none
def gAll : List D → Option RV
  | [.lst xs] => (bools xs).map fun bs => .d (.bl (bs.all id))
  | _ => none
theorem k_any (hm : c.mg "any" = none) : PrimOk c (.call "any") (funD gAny) := cb_of rfl (by decide) (by decide) hm fun X ic =>
  cr_of (cr_any ic.calm) fun vs rvs H Hs Kq Q z ok hg k h2 => by
    generalize e : rvs.map RV.fz = l at hg
    unfold gAny at hg
    split at hg
    · obtain ⟨bs, hb, rfl⟩ := Option.map_eq_some_iff.mp hg
      obtain ⟨v, ra, rfl, rfl, e1, w⟩ := argsA ok e
      obtain ⟨p, ys, rfl, hp, r⟩ := own_lst w ok.sub e1
      exact ⟨p, bs, rfl, by rw [← bools_rep hb r]; exact SqL.of hp, post_d h2 ok k .bl⟩
    · cases hg
theorem k_all (hm : c.mg "all" = none) : PrimOk c (.call "all") (funD gAll) := cb_of rfl (by decide) (by decide) hm fun X ic =>
  cr_of (cr_all ic.calm) fun vs rvs H Hs Kq Q z ok hg k h2 => by
    generalize e : rvs.map RV.fz = l at hg
    unfold gAll at hg
    split at hg
    · obtain ⟨bs, hb, rfl⟩ := Option.map_eq_some_iff.mp hg
      obtain ⟨v, ra, rfl, rfl, e1, w⟩ := argsA ok e
      obtain ⟨p, ys, rfl, hp, r⟩ := own_lst w ok.sub e1
      exact ⟨p, bs, rfl, by rw [← bools_rep hb r]; exact SqL.of hp, post_d h2 ok k .bl⟩
    · cases hg
def gInt : List D → Option RV
  | [.int i] => some (.d (.int i))
  | [.bl b] => some (.d (.int (if b = true then 1 else 0)))
  | _ => none
theorem k_int (hm : c.mg "int" = none) : PrimOk c (.call "int") (funD gInt) := ct_of rfl (by decide) (by decide) hm fun X ic =>
  cr_of call_int1 fun vs rvs H Hs Kq Q z ok hg k h2 => by
    generalize e : rvs.map RV.fz = l at hg
    unfold gInt at hg
    split at hg
    · rename_i i
      cases hg
      obtain ⟨v, ra, rfl, rfl, e1, w⟩ := argsA ok e
      exact .inl ⟨i, by rw [own_int w e1], post_d h2 ok k .int⟩
    · rename_i b
      cases hg
      obtain ⟨v, ra, rfl, rfl, e1, w⟩ := argsA ok e
      exact .inr ⟨b, by rw [own_bl w e1], post_d h2 ok k .int⟩
    · cases hg
def gStr : List D → Option RV
  | [.str i] => some (.d (.str i))
  | _ => none
theorem k_str (hm : c.mg "str" = none) : PrimOk c (.call "str") (funD gStr) := ct_of rfl (by decide) (by decide) hm fun X ic =>
  cr_of SkE.call_str_str fun vs rvs H Hs Kq Q z ok hg k h2 => by
    generalize e : rvs.map RV.fz = l at hg
    unfold gStr at hg
    split at hg
    · rename_i i
      cases hg
      obtain ⟨v, ra, rfl, rfl, e1, w⟩ := argsA ok e
      exact ⟨i, by rw [own_str w e1], post_d h2 ok k .str⟩
    · cases hg
def gAbs : List D → Option RV
  | [.int i] => some (.d (.int (if i < 0 then -i else i)))
  | _ => none
theorem k_abs (hm : c.mg "abs" = none) : PrimOk c (.call "abs") (funD gAbs) := cb_of rfl (by decide) (by decide) hm fun X ic =>
  cr_of call_abs fun vs rvs H Hs Kq Q z ok hg k h2 => by
    generalize e : rvs.map RV.fz = l at hg
    unfold gAbs at hg
    split at hg
    · rename_i i
      cases hg
      obtain ⟨v, ra, rfl, rfl, e1, w⟩ := argsA ok e
      exact ⟨i, by rw [own_int w e1], post_d h2 ok k .int⟩
    · cases hg
/-- a list of intsD -/
def intsD : List D → Option (List Int)
  | [] => some []
  | .int b :: r => (intsD r).map (b :: ·)
  | _ => none
theorem intsD_rep {K : PySem.W.Frag} {mg : Str → Option Value} {H : Hp} : ∀ {xs : List D} {bs : List Int} {vs : List V}, intsD xs = some bs → Reps K mg H vs xs → vs = bs.map V.int
  | [], bs, vs, h, r => by cases h; cases r; rfl
  | x :: xs, bs, vs, h, r => by
    cases r with
    | cons q r =>
      cases x with
      | int b =>
        obtain ⟨bs', h', rfl⟩ := Option.map_eq_some_iff.mp (show (intsD xs).map (b :: ·) = some bs from h)
        cases q
        rw [intsD_rep h' r]; rfl
      | _ => cases h
def gMax : List D → Option RV
  | [.int i, .int j] => some (.d (.int (if j > i then j else i)))
  | [.lst xs] => match intsD xs with
    | some (n :: ns) => some (.d (.int (ns.foldl max n)))
    | _ => none
  | _ => none
def gMin : List D → Option RV
  | [.int i, .int j] => some (.d (.int (if j < i then j else i)))
  | [.lst xs] => match intsD xs with
    | some (n :: ns) => some (.d (.int (ns.foldl min n)))
    | _ => none
  | _ => none
theorem foldl_max : ∀ (ns : List Int) (n : Int), (ns.foldl max n ∈ n :: ns) ∧ ∀ y ∈ n :: ns, y ≤ ns.foldl max n
  | [], n => by simp
  | m :: ns, n => by
    obtain ⟨h1, h2⟩ := foldl_max ns (max n m)
    rw [List.foldl_cons]
    have b := h2 (max n m) (List.mem_cons_self ..)
    refine ⟨?_, fun y hy => ?_⟩
    · rcases List.mem_cons.mp h1 with h | h
      · rcases Int.le_total n m with z | z
        · rw [h, Int.max_eq_right z]; simp
        · rw [h, Int.max_eq_left z]; simp
      · exact List.mem_cons_of_mem _ (List.mem_cons_of_mem _ h)
    · rcases List.mem_cons.mp hy with h | h
      · subst h; have := Int.le_max_left y m; omega
      · rcases List.mem_cons.mp h with h | h
        · subst h; have := Int.le_max_right n y; omega
        · exact h2 y (List.mem_cons_of_mem _ h)
theorem foldl_min : ∀ (ns : List Int) (n : Int), (ns.foldl min n ∈ n :: ns) ∧ ∀ y ∈ n :: ns, ns.foldl min n ≤ y
  | [], n => by simp
  | m :: ns, n => by
    obtain ⟨h1, h2⟩ := foldl_min ns (min n m)
    rw [List.foldl_cons]
    have b := h2 (min n m) (List.mem_cons_self ..)
    refine ⟨?_, fun y hy => ?_⟩
    · rcases List.mem_cons.mp h1 with h | h
      · rcases Int.le_total n m with z | z
        · rw [h, Int.min_eq_left z]; simp
        · rw [h, Int.min_eq_right z]; simp
      · exact List.mem_cons_of_mem _ (List.mem_cons_of_mem _ h)
    · rcases List.mem_cons.mp hy with h | h
      · subst h; have := Int.min_le_left y m; omega
      · rcases List.mem_cons.mp h with h | h
        · subst h; have := Int.min_le_right n y; omega
        · exact h2 y (List.mem_cons_of_mem _ h)
theorem k_max (hm : c.mg "max" = none) : PrimOk c (.call "max") (funD gMax) := cb_of rfl (by decide) (by decide) hm fun X ic =>
  cr_of (cr_or (call_max2 ic.calm) (cr_max ic.calm)) fun vs rvs H Hs Kq Q z ok hg k h2 => by
    generalize e : rvs.map RV.fz = l at hg
    unfold gMax at hg
    split at hg
    · rename_i i j
      cases hg
      obtain ⟨v, u, ra, rb, rfl, rfl, e1, e2, w1, w2⟩ := argsB ok e
      exact .inl ⟨i, j, by rw [own_int w1 e1, own_int w2 e2], post_d h2 ok k .int⟩
    · rename_i xs
      obtain ⟨v, ra, rfl, rfl, e1, w⟩ := argsA ok e
      split at hg
      · rename_i n ns hi
        cases hg
        obtain ⟨p, ys, rfl, hp, r⟩ := own_lst w ok.sub e1
        refine .inr ⟨p, n :: ns, rfl, by rw [← intsD_rep hi r]; exact SqL.of hp, by simp, fun m hm1 hm2 => ?_⟩
        obtain ⟨f1, f2⟩ := foldl_max ns n
        have : m = ns.foldl max n := Int.le_antisymm (f2 m hm1) (hm2 _ f1)
        rw [this]
        exact post_d h2 ok k .int
      · cases hg
    · cases hg
theorem k_min (hm : c.mg "min" = none) : PrimOk c (.call "min") (funD gMin) := cb_of rfl (by decide) (by decide) hm fun X ic =>
  cr_of (cr_or (call_min2 ic.calm) (cr_min ic.calm)) fun vs rvs H Hs Kq Q z ok hg k h2 => by
    generalize e : rvs.map RV.fz = l at hg
    unfold gMin at hg
    split at hg
    · rename_i i j
      cases hg
      obtain ⟨v, u, ra, rb, rfl, rfl, e1, e2, w1, w2⟩ := argsB ok e
      exact .inl ⟨i, j, by rw [own_int w1 e1, own_int w2 e2], post_d h2 ok k .int⟩
    · rename_i xs
      obtain ⟨v, ra, rfl, rfl, e1, w⟩ := argsA ok e
      split at hg
      · rename_i n ns hi
        cases hg
        obtain ⟨p, ys, rfl, hp, r⟩ := own_lst w ok.sub e1
        refine .inr ⟨p, n :: ns, rfl, by rw [← intsD_rep hi r]; exact SqL.of hp, by simp, fun m hm1 hm2 => ?_⟩
        obtain ⟨f1, f2⟩ := foldl_min ns n
        have : m = ns.foldl min n := Int.le_antisymm (hm2 _ f1) (f2 m hm1)
        rw [this]
        exact post_d h2 ok k .int
      · cases hg
    · cases hg
def gList : List D → Option RV
  | [.lst xs] => some (.olst xs)
  | [.tup xs] => some (.olst xs)
  | _ => none
theorem k_list (hm : c.mg "list" = none) : PrimOk c (.call "list") (funD gList) := ct_of rfl (by decide) (by decide) hm fun X ic =>
  cr_of call_list_of fun vs rvs H Hs Kq Q z ok hg k h2 => by
    generalize e : rvs.map RV.fz = l at hg
    unfold gList at hg
    split at hg
    · cases hg
      obtain ⟨v, ra, rfl, rfl, e1, w⟩ := argsA ok e
      obtain ⟨p, ys, rfl, hp, r⟩ := own_lst w ok.sub e1
      exact ⟨p, ys, rfl, .inl (SqL.of hp), fun l hl => post_lst h2 ok k hl r⟩
    · cases hg
      obtain ⟨v, ra, rfl, rfl, e1, w⟩ := argsA ok e
      obtain ⟨p, ys, rfl, hp, r⟩ := own_tup w ok.sub e1
      exact ⟨p, ys, rfl, .inr hp, fun l hl => post_lst h2 ok k hl r⟩
    · cases hg
def gTuple : List D → Option RV
  | [.lst xs] => some (.d (.tup xs))
  | [.tup xs] => some (.d (.tup xs))
  | _ => none
theorem k_tuple (hm : c.mg "tuple" = none) : PrimOk c (.call "tuple") (funD gTuple) := ct_of rfl (by decide) (by decide) hm fun X ic => by
  have h := call_tuple_of (X := X)
  intro pins s σ H vs us Q I rr q
  obtain ⟨Hs, rvs, Kq, ok, ⟨z, hg, k⟩, h2⟩ := q
  refine h pins s σ H vs us Q I rr ?_
  generalize e : rvs.map RV.fz = l at hg
  unfold gTuple at hg
  split at hg
  · cases hg
    obtain ⟨v, ra, rfl, rfl, e1, w⟩ := argsA ok e
    obtain ⟨p, ys, rfl, hp, r⟩ := own_lst w ok.sub e1
    exact ⟨p, ys, rfl, .inl ⟨SqL.of hp, fun l hl => post_tup h2 ok k hl r⟩⟩
  · cases hg
    obtain ⟨v, ra, rfl, rfl, e1, w⟩ := argsA ok e
    obtain ⟨p, ys, rfl, hp, r⟩ := own_tup w ok.sub e1
    refine ⟨p, ys, rfl, .inr ⟨hp, post_d h2 ok k ?_⟩⟩
    cases ra with
    | d d => have e1 : d = _ := e1; subst e1; exact w
    | _ => cases e1
  · cases hg
end
end Mp
namespace Mp
open PySem PySem.Spec PyProof.Rows L2
section
variable {c : CC} {X : Cx}
def isLst : D → Prop
  | .lst _ => True
  | _ => False
def isStr : D → Prop
  | .str _ => True
  | _ => False
def isDic : D → Prop
  | .dic _ => True
  | _ => False
/-- what the call of a builtin's method asks of its receiver -/
def RecOk (X : Cx) (T : String) (ck : D → Prop) : Prop := ∀ (pins : List (Addr × Obj)) (s : Shared) (σ : L2.St) (H : Hp) (x : V) (v : Value), Inv X pins σ H s → RelV x v → ckV X ck x H → s.TypeIs v T ∧ ∀ a, v = .ref a → ∃ ob, s.heap.get? a = some ob ∧ ob.dict = none
theorem rec_lst : RecOk X "list" isLst := by
  intro pins s σ H x v I rx ⟨Hs, rv, sm, w, k⟩
  cases e : rv.fz with
  | lst xs =>
    obtain ⟨a, vs, rfl, h, r⟩ := own_lst w sm e
    exact tyV_is I rx (.inl ⟨rfl, _, SqL.of h⟩)
  | _ => rw [e] at k; exact k.elim
theorem rec_str : RecOk X "str" isStr := by
  intro pins s σ H x v I rx ⟨Hs, rv, sm, w, k⟩
  cases e : rv.fz with
  | str z =>
    cases own_str w e
    exact tyV_is (T := "str") I rx rfl
  | _ => rw [e] at k; exact k.elim
theorem rec_dic : RecOk X "dict" isDic := by
  intro pins s σ H x v I rx ⟨Hs, rv, sm, w, k⟩
  cases e : rv.fz with
  | dic xs =>
    obtain ⟨a, ks, rfl, h, r⟩ := own_dic w sm e
    cases rx
    obtain ⟨h1, h2, _⟩ := isD_at I (.inl ⟨ks, h⟩)
    exact ⟨h1, h2⟩
  | _ => rw [e] at k; exact k.elim
theorem few_no (cpos : Pos) (env : PySem.Env) {es : List Expr} (h : ∀ e ∈ es, ∀ y q, e ≠ .Starred y q) (hl : es.length < 20) :
    ((backTo cpos (starEach es env)).all (fun x => !x.1) && (backToKw cpos (keywordEach [] env)).all (fun x => x.1.isSome) && decide (es.length + ([] : List Keyword).length + (if ([] : List Keyword).isEmpty then 0 else 1) < 30)) = true := by
  have h1 : (backTo cpos (starEach es env)).all (fun x => !x.1) = true := by
    have := plain_no cpos env h
    rw [List.all_eq_true]
    intro x hx
    have q := List.any_eq_false.mp this x hx
    simpa using q
  rw [h1]
  have : decide (es.length + ([] : List Keyword).length + (if ([] : List Keyword).isEmpty = true then 0 else 1) < 30) = true := by
    apply decide_eq_true
    simp
    omega
  rw [this]
  rfl
theorem evalArgs_nil {M : Model} {A : Around} {E : Value → Shared → Prop} {s : Shared} {f : Value} {Q : Args → Shared → Prop} (h : wpAny M A (spliced []) (fun vs s' => Q ⟨vs, []⟩ s') E s) : wpAny M A (evalArgs f true [] []) Q E s := by
  unfold evalArgs
  show wpAny M A (spliced [] >>= _) Q E s
  refine wpAny_bind (wpAny_mono h (fun vs s' h' => ?_) fun _ _ x => x)
  refine wpAny_bind (wpAny_pure ?_)
  refine wpAny_holding ?_
  exact wpAny_bind (wpAny_pure (wpAny_bind (wpAny_pure (wpAny_pure h'))))
/-- the call of a builtin's method -/
theorem m_of {T id : String} {m : Str} {ck : D → Prop} {dn : Den} (pa : PlainAttrs T) (slot : Slot T m id) (hty : typeOf (.builtin id) = pure (.type "method_descriptor")) (hck : ∀ X, InC c X → RecOk X T ck)
    (hm : ∀ X, InC c X → MtR X id fun x vs H Q => spD X.K X.mg dn (x :: vs) H Q E0) : MethOk c m ck dn := by
  intro X ic o es to t apos pos hb hline hlen hns ho ha
  match es, ha, hlen, hns with
  | [], ha, _, _ =>
    refine ⟨fun pins s σ H Q I h => ?_⟩
    refine wpAny_Call_method0_late (hb _) hline (thn (ho.run pins s σ H _ I h) fun v s1 ⟨x, H1, I1, r1, k, q1⟩ => ?_)
    obtain ⟨h1, h2⟩ := hck X ic _ _ _ _ _ _ I1 r1 k
    refine ⟨T, id, pa, slot, hty, h1, h2, Calls.callWith_builtin rfl ?_⟩
    have hA := ha.run pos pins s1 σ H1 _ I1 q1
    exact evalArgs_nil (thn hA fun us s2 ⟨vs, H2, I2, r2, q2⟩ => hm X ic pins s2 σ H2 x vs v us Q I2 r1 r2 q2)
  | e :: es, ha, hlen, hns =>
    have hs := star_no (hns e (List.mem_cons_self ..)) es X.env
    have hplain := plain_no pos X.env (es := es) fun e he => hns e (List.mem_cons_of_mem _ he)
    refine ⟨fun pins s σ H Q I h => ?_⟩
    refine wpAny_Call_method_late (hb _) (few_no pos X.env hns hlen) hline rfl (thn (ho.run pins s σ H _ I h) fun v s1 ⟨x, H1, I1, r1, k, q1⟩ => ?_)
    obtain ⟨h1, h2⟩ := hck X ic _ _ _ _ _ _ I1 r1 k
    refine ⟨T, id, pa, slot, hty, h1, h2, ?_⟩
    have hA := ha.run pos pins s1 σ H1 _ I1 q1
    rw [hs] at hA ⊢
    refine Calls.callWith_builtin (by show (false || (backTo pos (starEach es X.env)).any (·.1)) = false; rw [hplain] <;> rfl) (Calls.evalArgs_plain ?_)
    exact thn hA fun us s2 ⟨vs, H2, I2, r2, q2⟩ => hm X ic pins s2 σ H2 x vs v us Q I2 r1 r2 q2
/-! ### list.append, pop, insert, reverse -/
/-- a method that changes its receiver: the answer and the receiver behind -/
def mutD (g : RV → List D → Option (D × RV)) : Den := fun args Q _ => ∃ r0 rest d r1, args = r0 :: rest ∧ r0.own = true ∧ g r0 (rest.map RV.fz) = some (d, r1) ∧ Q (.d d) (r1 :: rest)
theorem cons_set {α : Type} {a b : α} {l : List α} : ((a :: l).map some).set 0 (some b) = (b :: l).map some := rfl
theorem post_put {K : PySem.W.Frag} {mg : Str → Option Value} {Hs H : Hp} {a : Addr} {us : List V} {r0 r1 : RV} {rest : List RV} {Kq : RV → List RV → Prop} {Q : VK} {d : D} {v : V} {o : HO} (h : Post K mg Hs H (.ref a :: us) (r0 :: rest) Kq Q)
    (ok : EnvOk K mg Hs H ((V.ref a :: us).map some) ((r0 :: rest).map some)) (ow : r0.own = true) (hs : Hs a = none) (k : Kq (.d d) (r1 :: rest)) (w : Own K mg Hs (upd H a o) (.ref a) r1) (rd : Rep K mg Hs v d) : Q v (upd H a o) := by
  have t : T (fun b => r0.own = true ∧ V.ref a = .ref b) Hs H Hs (upd H a o) := ⟨Same.refl _, fun b u q nb => by
    by_cases e : b = a
    · subst e; exact absurd ⟨ow, rfl⟩ nb
    · rw [upd_ne e]; exact q, fun b q => by
    by_cases e : b = a
    · subst e; rw [upd_same] at q; cases q
    · rw [upd_ne e] at q; exact q, fun b q => .inl q⟩
  have sb : Same Hs (upd H a o) := fun b u q => by
    by_cases e : b = a
    · subst e; rw [hs] at q; cases q
    · rw [upd_ne e]; exact ok.sub b u q
  obtain ⟨ok2, sub⟩ := ok.put (i := 0) (rv := r1) (rv0 := r0) (v := .ref a) rfl (fun _ => ow) rfl t sb w
  rw [cons_set] at ok2 sub
  exact h _ _ k v Hs _ (t.mono fun b q => .inl ⟨0, r0, rfl, q.1, by rw [← q.2]; rfl⟩) ok2 sub rd fun z => nomatch z
theorem args_cons {K : PySem.W.Frag} {mg : Str → Option Value} {Hs H : Hp} {x : V} {us : List V} {r0 : RV} {rest : List RV} (ok : EnvOk K mg Hs H ((x :: us).map some) ((r0 :: rest).map some)) : Own K mg Hs H x r0 ∧ us.length = rest.length ∧ ∀ (i : Nat) (r : RV), rest[i]? = some r → ∃ v, us[i]? = some v ∧ Own K mg Hs H v r := by
  refine ⟨?_, ?_, fun i r e => ?_⟩
  · obtain ⟨v, e, w⟩ := ok.at_ 0 r0 rfl
    cases e; exact w
  · have := ok.len
    simpa using this
  · obtain ⟨v, e', w⟩ := ok.at_ (i + 1) r (by simpa using e)
    exact ⟨v, by simpa using e', w⟩
/-- x.append(y): the item is shared from now on, so it must be data -/
def dAppend : Den := fun args Q _ => ∃ xs y, args = [.olst xs, .d y] ∧ xs.length < sizeLine ∧ Q (.d .non) [.olst (xs ++ [y]), .d y]
theorem k_append : MethOk c "append" isLst dAppend := m_of PySem.F.plainAttrs_list PySem.F.slot_list_append PySem.F.type_list_append (fun _ _ => rec_lst) fun X ic => by
  intro pins s σ H x us v ws Q I rx rs q
  obtain ⟨Hs, rvs, Kq, ok, ⟨xs, y, rfl, hz, k⟩, h⟩ := q
  obtain ⟨w, hl, at_⟩ := args_cons ok
  obtain ⟨a, vs, rfl, ha, hs, r⟩ := w
  match us, hl with
  | [u], _ =>
    obtain ⟨u', e, wy⟩ := at_ 0 _ rfl
    cases e
    exact mt_append pins s σ H (.ref a) [u] v ws Q I rx rs ⟨a, vs, u, rfl, rfl, ha, by rw [r.length]; exact hz, post_put h ok rfl hs k ⟨a, _, rfl, upd_same, hs, r.append (.cons wy .nil)⟩ .non⟩
theorem Reps.erase {K : PySem.W.Frag} {mg : Str → Option Value} {H : Hp} : ∀ {vs : List V} {ds : List D} (i : Nat), Reps K mg H vs ds → Reps K mg H (vs.eraseIdx i) (ds.eraseIdx i)
  | _, _, _, .nil => .nil
  | _, _, 0, .cons _ r => r
  | _, _, i + 1, .cons q r => .cons q (Reps.erase i r)
def dPopAt : Den := fun args Q _ => ∃ xs i k y, args = [.olst xs, .d (.int i)] ∧ -(2 ^ 63) ≤ i ∧ i < 2 ^ 63 ∧ seqIndex? i xs.length = some k ∧ xs[k]? = some y ∧ Q (.d y) [.olst (xs.eraseIdx k), .d (.int i)]
theorem k_popAt : MethOk c "pop" isLst dPopAt := m_of PySem.F.plainAttrs_list PySem.F.slot_list_pop PySem.F.type_list_pop (fun _ _ => rec_lst) fun X ic => by
  intro pins s σ H x us v ws Q I rx rs q
  obtain ⟨Hs, rvs, Kq, ok, ⟨xs, i, j, y, rfl, h1, h2, hi, hy, k⟩, h⟩ := q
  obtain ⟨w, hl, at_⟩ := args_cons ok
  obtain ⟨a, vs, rfl, ha, hs, r⟩ := w
  match us, hl with
  | [u], _ =>
    obtain ⟨u', e, wy⟩ := at_ 0 _ rfl
    cases e
    obtain ⟨vy, ey, ry⟩ := r.get hy
    refine mt_popAt pins s σ H (.ref a) [u] v ws Q I rx rs ⟨a, vs, i, j, vy, rfl, by rw [rep_int wy], ha, h1, h2, by rw [r.length]; exact hi, ey, post_put h ok rfl hs k ⟨a, _, rfl, upd_same, hs, r.erase j⟩ ry⟩
def dReverse : Den := fun args Q _ => ∃ xs, args = [.olst xs] ∧ Q (.d .non) [.olst xs.reverse]
theorem k_reverse : MethOk c "reverse" isLst dReverse := m_of PySem.F.plainAttrs_list PySem.F.slot_list_reverse PySem.F.type_list_reverse (fun _ _ => rec_lst) fun X ic => by
  intro pins s σ H x us v ws Q I rx rs q
  obtain ⟨Hs, rvs, Kq, ok, ⟨xs, rfl, k⟩, h⟩ := q
  obtain ⟨w, hl, at_⟩ := args_cons ok
  obtain ⟨a, vs, rfl, ha, hs, r⟩ := w
  match us, hl with
  | [], _ => exact mt_reverse pins s σ H (.ref a) [] v ws Q I rx rs ⟨a, vs, rfl, rfl, ha, post_put h ok rfl hs k ⟨a, _, rfl, upd_same, hs, r.reverse⟩ .non⟩
def dInsert : Den := fun args Q _ => ∃ xs i y, args = [.olst xs, .d (.int i), .d y] ∧ xs.length < sizeLine ∧ 0 ≤ i ∧ i < 2 ^ 63 ∧ Q (.d .non) [.olst (xs.take i.toNat ++ [y] ++ xs.drop i.toNat), .d (.int i), .d y]
theorem k_insert : MethOk c "insert" isLst dInsert := m_of PySem.F.plainAttrs_list PySem.F.slot_list_insert PySem.F.type_list_insert (fun _ _ => rec_lst) fun X ic => by
  intro pins s σ H x us v ws Q I rx rs q
  obtain ⟨Hs, rvs, Kq, ok, ⟨xs, i, y, rfl, hz, h1, h2, k⟩, h⟩ := q
  obtain ⟨w, hl, at_⟩ := args_cons ok
  obtain ⟨a, vs, rfl, ha, hs, r⟩ := w
  match us, hl with
  | [u, u2], _ =>
    obtain ⟨u', e, wi⟩ := at_ 0 _ rfl
    cases e
    obtain ⟨u', e, wy⟩ := at_ 1 _ rfl
    cases e
    exact mt_insert pins s σ H (.ref a) [u, u2] v ws Q I rx rs ⟨a, vs, i, u2, rfl, by rw [rep_int wi], ha, by rw [r.length]; exact hz, h1, h2, post_put h ok rfl hs k ⟨a, _, rfl, upd_same, hs, ((r.take _).append (.cons wy .nil)).append (r.drop _)⟩ .non⟩
/-! ### texts -/
theorem argsM {K : PySem.W.Frag} {mg : Str → Option Value} {Hs H : Hp} {x : V} {us : List V} {rvs : List RV} {a b : D} (ok : EnvOk K mg Hs H ((x :: us).map some) (rvs.map some)) (e : rvs.map RV.fz = [a, b]) : ∃ u ra rb, us = [u] ∧ rvs = [ra, rb] ∧ ra.fz = a ∧ rb.fz = b ∧ Own K mg Hs H x ra ∧ Own K mg Hs H u rb := by
  obtain ⟨v, u, ra, rb, e1, e2, h⟩ := argsB ok e
  cases e1
  exact ⟨u, ra, rb, rfl, e2, h⟩
def strsD : List D → Option (List Str)
  | [] => some []
  | .str b :: r => (strsD r).map (b :: ·)
  | _ => none
theorem strsD_rep {K : PySem.W.Frag} {mg : Str → Option Value} {H : Hp} : ∀ {xs : List D} {bs : List Str} {vs : List V}, strsD xs = some bs → Reps K mg H vs xs → vs = bs.map V.str
  | [], bs, vs, h, r => by cases h; cases r; rfl
  | x :: xs, bs, vs, h, r => by
    cases r with
    | cons q r =>
      cases x with
      | str b =>
        obtain ⟨bs', h', rfl⟩ := Option.map_eq_some_iff.mp (show (strsD xs).map (b :: ·) = some bs from h)
        cases q
        rw [strsD_rep h' r]; rfl
      | _ => cases h
def gJoin : List D → Option RV
  | [.str a, .lst xs] => match strsD xs with
    | some ys => if (ys.map (·.length)).sum + ys.length * a.length ≤ 16777216 then some (.d (.str (Txt.join a ys))) else none
    | none => none
  | _ => none
theorem k_join : MethOk c "join" isStr (funD gJoin) := m_of PySem.F.plainAttrs_str PySem.F.slot_str_join PySem.F.type_str_join (fun _ _ => rec_str) fun X ic => by
  intro pins s σ H x us v ws Q I rx rs q
  obtain ⟨Hs, rvs, Kq, ok, ⟨z, hg, k⟩, h⟩ := q
  generalize e : rvs.map RV.fz = l at hg
  unfold gJoin at hg
  split at hg
  · rename_i a0 xs0
    obtain ⟨u, ra, rb, rfl, rfl, e1, e2, w1, w2⟩ := argsM ok e
    split at hg
    · rename_i ys hy
      by_cases hz : (ys.map (·.length)).sum + ys.length * a0.length ≤ 16777216
      · rw [if_pos hz] at hg; cases hg
        obtain ⟨p, vs, rfl, hp, r⟩ := own_lst w2 ok.sub e2
        exact mt_join pins s σ H x _ v ws Q I rx rs ⟨_, p, ys, own_str w1 e1, rfl, .inl (by rw [← strsD_rep hy r]; exact SqL.of hp), hz, post_d h ok k .str⟩
      · rw [if_neg hz] at hg; cases hg
    · cases hg
  · cases hg
theorem reps_strs {K : PySem.W.Frag} {mg : Str → Option Value} {H : Hp} : ∀ (l : List Str), Reps K mg H (l.map V.str) (l.map D.str)
  | [] => .nil
  | _ :: l => .cons .str (reps_strs l)
def gSplit : List D → Option RV
  | [.str a, .str b] => if (b.length == 0) = false ∧ a.length + 2 ≤ sizeLine then some (.olst ((Txt.split a b).map .str)) else none
  | _ => none
theorem k_split : MethOk c "split" isStr (funD gSplit) := m_of PySem.F.plainAttrs_str PySem.F.slot_str_split PySem.F.type_str_split (fun _ _ => rec_str) fun X ic => by
  intro pins s σ H x us v ws Q I rx rs q
  obtain ⟨Hs, rvs, Kq, ok, ⟨z, hg, k⟩, h⟩ := q
  generalize e : rvs.map RV.fz = l at hg
  unfold gSplit at hg
  split at hg
  · rename_i a b
    obtain ⟨u, ra, rb, rfl, rfl, e1, e2, w1, w2⟩ := argsM ok e
    by_cases hz : (b.length == 0) = false ∧ a.length + 2 ≤ sizeLine
    · rw [if_pos hz] at hg; cases hg
      exact mt_split pins s σ H x _ v ws Q I rx rs ⟨a, b, own_str w1 e1, by rw [own_str w2 e2], hz.1, hz.2, fun p hp => post_lst h ok k hp (reps_strs _)⟩
    · rw [if_neg hz] at hg; cases hg
  · cases hg
/-! ### dict.get, d[k] -/
theorem RepK.valV {K : PySem.W.Frag} {mg : Str → Option Value} {H : Hp} {k : Key} : ∀ {ks : List (Key × V)} {kvs : List (Key × D)}, RepK K mg H ks kvs → (∃ v d, L2.valV ks k = some v ∧ Mp.getD kvs k = some d ∧ Rep K mg H v d) ∨ (L2.valV ks k = none ∧ Mp.getD kvs k = none)
  | _, _, .nil => .inr ⟨rfl, rfl⟩
  | _, _, .cons (k := k') q r => by
    have ih := RepK.valV (k := k) r
    unfold L2.valV Mp.getD at ih ⊢
    simp only [List.find?_cons]
    by_cases h : k' = k
    · refine .inl ⟨_, _, ?_, ?_, q⟩ <;> simp [h]
    · simp only [h, decide_false]
      exact ih
def gGet1 : List D → Option RV
  | [.dic kvs, k] => (keyOf k).map fun ky => .d ((Mp.getD kvs ky).getD .non)
  | _ => none
def gGet2 : List D → Option RV
  | [.dic kvs, k, d] => (keyOf k).map fun ky => .d ((Mp.getD kvs ky).getD d)
  | _ => none
theorem own_key {K : PySem.W.Frag} {mg : Str → Option Value} {Hs H : Hp} {x : V} {ra : RV} {kk : Key} (w : Own K mg Hs H x ra) (hk : keyOf ra.fz = some kk) : x = kV kk := by
  cases ra with
  | d d => exact key_rep hk w
  | _ => cases hk
theorem k_get1 : MethOk c "get" isDic (funD gGet1) := m_of PySem.F.plainAttrs_dict PySem.F.slot_dict_get PySem.F.type_dict_get (fun _ _ => rec_dic) fun X ic => by
  intro pins s σ H x us v ws Q I rx rs q
  obtain ⟨Hs, rvs, Kq, ok, ⟨z, hg, k⟩, h⟩ := q
  generalize e : rvs.map RV.fz = l at hg
  unfold gGet1 at hg
  split at hg
  · obtain ⟨u, ra, rb, rfl, rfl, e1, e2, w1, w2⟩ := argsM ok e
    obtain ⟨ky, hk, rfl⟩ := Option.map_eq_some_iff.mp hg
    obtain ⟨p, ks, rfl, hp, r⟩ := own_dic w1 ok.sub e1
    have eu := own_key w2 (by rw [e2]; exact hk)
    obtain ⟨u', rfl, ru⟩ := rs.one
    cases rx
    refine d_get1 (by have := ic.units64; omega) I (.inl ⟨ks, ky, hp, eu, rfl⟩) ru fun w' s' I' rw' => ⟨_, H, I', rw', ?_⟩
    rcases r.valV (k := ky) with ⟨vv, d, q1, q2, rr⟩ | ⟨q1, q2⟩
    · rw [q1]; rw [q2] at k; exact post_d h ok k rr
    · rw [q1]; rw [q2] at k; exact post_d h ok k .non
  · cases hg
def gIxA : List D → Option RV
  | [.dic kvs, k] => (keyOf k).bind fun ky => (Mp.getD kvs ky).map .d
  | l => gIx l
theorem k_ixA : PrimOk c .sub (funD gIxA) := fun X ic => by
  have hix := k_ix (c := c) X ic
  intro value slice pins s σ H x y v u Q I rx ry q hs
  obtain ⟨Hs, rvs, Kq, ok, ⟨z, hg, k⟩, h⟩ := q
  obtain ⟨ra, rb, rfl, w1, w2⟩ := args2 ok
  have hg : gIxA [ra.fz, rb.fz] = some z := hg
  by_cases hd : isDic ra.fz
  · cases e1 : ra.fz with
    | dic kvs =>
      rw [e1] at hg
      obtain ⟨ky, hk, hg⟩ := Option.bind_eq_some_iff.mp (show (keyOf rb.fz).bind (fun ky => (Mp.getD kvs ky).map RV.d) = some z from hg)
      obtain ⟨d, hd, rfl⟩ := Option.map_eq_some_iff.mp hg
      obtain ⟨p, ks, rfl, hp, r⟩ := own_dic w1 ok.sub e1
      have eu := own_key w2 hk
      obtain rfl : v = Value.ref p := rx
      rcases r.valV (k := ky) with ⟨vv, d', q1, q2, rr⟩ | ⟨q1, q2⟩
      · rw [hd] at q2; cases q2
        have g : DGet H p y (some vv) := .inl ⟨ks, ky, hp, eu, q1.symm⟩
        exact tail_any (isD_at I (.inl ⟨ks, hp⟩)).1 slot_dict_getitem.lookup (d_getItem (by have := ic.units64; omega) I g ry fun w' s' I' rw' => ⟨vv, H, I', rw', post_d h ok k rr⟩) hs
      · rw [hd] at q2; cases q2
    | _ => rw [e1] at hd; exact hd.elim
  · refine hix value slice pins s σ H x y v u Q I rx ry ⟨Hs, [ra, rb], Kq, ok, ⟨z, ?_, k⟩, h⟩ hs
    cases e1 : ra.fz with
    | dic _ => rw [e1] at hd; exact absurd trivial hd
    | _ => (show gIx [ra.fz, rb.fz] = some z); rw [e1] at hg ⊢; exact hg
end
end Mp
namespace Mp
open PySem PySem.Spec PyProof.Rows L2
section
variable {c : CC} {X : Cx}
theorem InC.k_ (i : InC c X) : X.prog = c.P ∧ X.w = c.w ∧ X.K = c.K ∧ X.mg = c.mg ∧ X.base = c.base := by
  rw [← i.eq]; exact ⟨rfl, rfl, rfl, rfl, rfl⟩
/-! ### own defs called by their names -/
theorem k_def {x : Str} {j : Nat} {f : Addr} {fd : FuncData} {ps : List Str} {dn : Den} (F : FnOk c.P c.w c.K c.mg c.base CX0 j f fd ps (spD c.K c.mg dn)) (hj : j ≤ c.k) (hm : c.mg x = some (.ref f)) (hk : PySem.W.keepIn c.K (.ref f) = true)
    (hb : Binds c.K fd ps []) (hdb : (x == ("__debug__" : Str)) = false) : PrimOk c (.call x) dn := fun X ic => by
  intro es t p pos hne hg hns ha
  obtain ⟨e1, e2, e3, e4, e5⟩ := ic.k_
  match es, hne with
  | e :: es, _ =>
    have q := pe_call (X := X) (CX := CX0) (E := E0) (k := j) (f := f) (fd := fd) (ps := ps) (sp := spD X.K X.mg dn) (dvs := []) (ds := []) (x := x) (p := p) (pos := pos) (e := e) (es := es) (t := t)
      (by rw [e1, e2, e3, e4, e5]; exact F) (ic.room.mono hj) hg (by rw [e4]; exact hm) (by rw [e3]; exact hk) (by rw [e3]; exact hb) .nil pass0 ha hdb (star_no (hns e (List.mem_cons_self ..)) es X.env) (plain_no pos X.env fun e he => hns e (List.mem_cons_of_mem _ he))
    have h : tCall (spD X.K X.mg dn) [] E0 t = tCB (fun vs H Q => spD X.K X.mg dn vs H Q E0) t := by
      unfold tCall tCB
      simp only [List.append_nil]
    rw [h] at q
    exact q
theorem k_def0 {x : Str} {j : Nat} {f : Addr} {fd : FuncData} {dn : Den} (F : FnOk c.P c.w c.K c.mg c.base CX0 j f fd [] (spD c.K c.mg dn)) (hj : j ≤ c.k) (hm : c.mg x = some (.ref f)) (hk : PySem.W.keepIn c.K (.ref f) = true)
    (hb : Binds c.K fd [] []) (hdb : (x == ("__debug__" : Str)) = false) : PrimOk c (.call0 x) dn := fun X ic => by
  intro p pos hg
  obtain ⟨e1, e2, e3, e4, e5⟩ := ic.k_
  exact pe_call0 (X := X) (CX := CX0) (E := E0) (k := j) (f := f) (fd := fd) (ps := []) (sp := spD X.K X.mg dn) (dvs := []) (ds := []) (x := x) (p := p) (pos := pos)
      (by rw [e1, e2, e3, e4, e5]; exact F) (ic.room.mono hj) hg (by rw [e4]; exact hm) (by rw [e3]; exact hk) (by rw [e3]; exact hb) .nil pass0 hdb
/-! ### constructors -/
def mkD (cn : Str) (dn : Den) : Den := fun args Q E => dn (.oins cn [] :: args) (fun r rvs' => r = .d .non ∧ ∃ o rest, rvs' = o :: rest ∧ Q o rest) (fun x rvs' => E x rvs'.tail)
section
variable {K : PySem.W.Frag} {mg : Str → Option Value} {Hs H Hs1 H1 : Hp}
theorem ft_cons {x : V} {r : RV} {vs : List V} {rvs : List RV} {b : Addr} (f : Ft ((x :: vs).map some) ((r :: rvs).map some) b) : x = .ref b ∨ Ft (vs.map some) (rvs.map some) b := by
  obtain ⟨i, rv, e, o, s⟩ := f
  cases i with
  | zero => left; simpa using s
  | succ i => exact .inr ⟨i, rv, by simpa using e, o, by simpa using s⟩
theorem env_tail {x : V} {r : RV} {vs : List V} {rvs : List RV} (ok : EnvOk K mg Hs H ((x :: vs).map some) ((r :: rvs).map some)) : EnvOk K mg Hs H (vs.map some) (rvs.map some) := by
  refine ⟨ok.sub, by have := ok.len; simpa using this, fun i rv e => ?_, fun i j rv rv' a hij e1 e2 o1 o2 s1 s2 => ?_⟩
  · obtain ⟨v, e', w⟩ := ok.at_ (i + 1) rv (by simpa using e)
    exact ⟨v, by simpa using e', w⟩
  · exact ok.sep (i + 1) (j + 1) rv rv' a (by omega) (by simpa using e1) (by simpa using e2) o1 o2 (by simpa using s1) (by simpa using s2)
theorem make_conv {cn : Str} {C : Addr} {dn : Den} {vs : List V} {Q : VK} {E E' : XK} (hm : mg cn = some (.ref C)) (h : spD K mg (mkD cn dn) vs H Q E) (x dx : Addr) (n1 : H x = none) (n2 : H dx = none) (ne : dx ≠ x) :
    spD K mg dn (.ref x :: vs) (upd (upd H dx (.own x)) x (.ins C dx [])) (fun v H2 => v = .non ∧ Q (.ref x) H2) E' := by
  obtain ⟨Hs, rvs, Kq, ok, d, h⟩ := h
  have hsn : ∀ b, H b = none → Hs b = none := fun b n => by
    cases q : Hs b with
    | none => rfl
    | some u => rw [ok.sub b u q] at n; cases n
  have old : ∀ b, H b ≠ none → (upd (upd H dx (.own x)) x (.ins C dx [])) b = H b := fun b hb => by
    rw [upd_ne (fun z => hb (by rw [z]; exact n1)), upd_ne (fun z => hb (by rw [z]; exact n2))]
  have sub : Same Hs (upd (upd H dx (.own x)) x (.ins C dx [])) := fun b u q => by
    have := ok.sub b u q
    rw [old b (by rw [this]; exact fun z => nomatch z)]; exact this
  have ok1 : EnvOk K mg Hs (upd (upd H dx (.own x)) x (.ins C dx [])) (vs.map some) (rvs.map some) := by
    refine ok.keep (F := fun _ => False) ⟨Same.refl _, fun b u q _ => ?_, fun b q => ?_, fun b q => .inl q⟩ sub fun _ f => f.elim
    · rw [old b (by rw [q]; exact fun z => nomatch z)]; exact q
    · cases z : H b with
      | none => rfl
      | some u => rw [old b (by rw [z]; exact fun z => nomatch z), z] at q; cases q
  have ok2 : EnvOk K mg Hs (upd (upd H dx (.own x)) x (.ins C dx [])) ((V.ref x :: vs).map some) ((RV.oins cn [] :: rvs).map some) := by
    refine ⟨sub, by have := ok.len; simpa using this, fun i rv e => ?_, fun i j rv rv' a hij e1 e2 o1 o2 s1 s2 => ?_⟩
    · cases i with
      | zero =>
        have e : RV.oins cn [] = rv := by simpa using e
        subst e
        exact ⟨.ref x, rfl, x, C, dx, [], rfl, hm, upd_same, hsn x n1, .nil⟩
      | succ i =>
        obtain ⟨v, e', w⟩ := ok1.at_ i rv (by simpa using e)
        exact ⟨v, by simpa using e', w⟩
    · have fresh : ∀ (j : Nat) (rv : RV), (rvs.map some)[j]? = some (some rv) → rv.own = true → (vs.map some)[j]? = some (some (V.ref a)) → H a ≠ none := fun j rv e o s => (ok.ftNone ⟨j, rv, e, o, s⟩).2
      cases i with
      | zero =>
        cases j with
        | zero => exact hij rfl
        | succ j =>
          have ea : x = a := by simpa using s1
          subst ea
          exact fresh j rv' (by simpa using e2) o2 (by simpa using s2) n1
      | succ i =>
        cases j with
        | zero =>
          have ea : x = a := by simpa using s2
          subst ea
          exact fresh i rv (by simpa using e1) o1 (by simpa using s1) n1
        | succ j => exact ok1.sep i j rv rv' a (by omega) (by simpa using e1) (by simpa using e2) o1 o2 (by simpa using s1) (by simpa using s2)
  refine ⟨Hs, .oins cn [] :: rvs, _, ok2, d, fun r rvs' k v Hs' H' t ok3 sb w fr => ?_⟩
  obtain ⟨rfl, o, rest, rfl, k⟩ := k
  refine ⟨own_non w rfl, ?_⟩
  have nH : ∀ b, (upd (upd H dx (.own x)) x (.ins C dx [])) b = none → H b = none := fun b q => by
    cases z : H b with
    | none => rfl
    | some u => rw [old b (by rw [z]; exact fun z => nomatch z), z] at q; cases q
  have ftx : ∀ b, Ft ((V.ref x :: vs).map some) ((RV.oins cn [] :: rvs).map some) b → Ft (vs.map some) (rvs.map some) b ∨ H b = none := fun b f => by
    rcases ft_cons f with e | f
    · cases e; exact .inr n1
    · exact .inl f
  refine h o rest k (.ref x) Hs' H' ⟨t.same, fun b u q nf => ?_, fun b q => nH b (t.dom b q), fun b q => ?_⟩ (env_tail ok3) (fun i rv' e oo => ?_) ?_ fun _ a e => by cases e; exact n1
  · refine t.frame b u (by rw [old b (by rw [q]; exact fun z => nomatch z)]; exact q) fun f => ?_
    rcases ftx b f with z | z
    · exact nf z
    · rw [q] at z; cases z
  · rcases t.shr b q with z | z | z
    · exact .inl z
    · rcases ftx b z with z | z
      · exact .inr (.inl z)
      · exact .inr (.inr z)
    · exact .inr (.inr (nH b z))
  · obtain ⟨rv, e', o'⟩ := sb (i + 1) rv' (by simpa using e) oo
    exact ⟨rv, by simpa using e', o'⟩
  · obtain ⟨v, e, w⟩ := ok3.at_ 0 o rfl
    cases e
    exact w
end
theorem k_make {x : Str} {j : Nat} {f C : Addr} {fd : FuncData} {ps : List Str} {dn : Den} (M : Mk c.K C f) (F : FnOk c.P c.w c.K c.mg c.base CX0 j f fd ps (spD c.K c.mg dn)) (hj : j + 1 ≤ c.k) (hm : c.mg x = some (.ref C))
    (hb : Binds c.K fd ps []) (hdb : (x == ("__debug__" : Str)) = false) : PrimOk c (.call x) (mkD x dn) := fun X ic => by
  intro es t p pos hne hg hns ha
  obtain ⟨e1, e2, e3, e4, e5⟩ := ic.k_
  have F' : FnOk X.prog X.w X.K X.mg X.base CX0 j f fd ps (spD X.K X.mg dn) := by rw [e1, e2, e3, e4, e5]; exact F
  have M' : Mk X.K C f := by rw [e3]; exact M
  have hm' : X.mg x = some (.ref C) := by rw [e4]; exact hm
  have hb' : Binds X.K fd ps [] := by rw [e3]; exact hb
  match es, hne with
  | e :: es, _ =>
    refine ⟨fun pins s σ H Q I h => ?_⟩
    refine wpAny_Call_Name_kw (ld_glob I hg hm' ?_ hdb)
    refine PySem.W.callWith_K (h₀ := X.base) I.ok.mod.kin M'.kp (thn (ha.run pos pins s σ H _ I h) fun us s1 ⟨vs, H1, I1, r, q⟩ => ⟨I1.kIn, ?_⟩) (star_no (hns e (List.mem_cons_self ..)) es X.env) (plain_no pos X.env fun e he => hns e (List.mem_cons_of_mem _ he))
    exact run_make (E := E0) M' F' (ic.room.mono hj) hb' .nil pass0 I1 r fun x0 dx n1 n2 ne => by
      rw [List.append_nil]
      exact make_conv hm' q x0 dx n1 n2 ne
/-! ### an attribute of an instance -/
def gAttr (cs : List Str) (f : Str) : List D → Option RV
  | [.ins cn fs] => if cn ∈ cs then (fs.lookup f).map .d else none
  | _ => none
theorem k_attr {cs : List Str} {f : Str} (h : ∀ cn ∈ cs, SetOk c.K c.mg cn f) : PrimOk c (.attr f) (funD (gAttr cs f)) := fun X ic => by
  intro e te pos hb he
  obtain ⟨e1, e2, e3, e4, e5⟩ := ic.k_
  refine ⟨fun pins s σ H Q I q => ?_⟩
  refine attr_of (hb _) (thn (he.run pins s σ H _ I q) fun u s1 ⟨x, H1, I1, rx, q⟩ => ?_)
  obtain ⟨Hs, rvs, Kq, ok, ⟨z, hg, k⟩, h2⟩ := q
  obtain ⟨ra, rfl, w⟩ := args1 ok
  generalize e0 : ([ra].map RV.fz) = l at hg
  unfold gAttr at hg
  split at hg
  · rename_i cn fs
    have e0 : ra.fz = .ins cn fs := by simpa using e0
    by_cases hc : cn ∈ cs
    · rw [if_pos hc] at hg
      obtain ⟨d, hd, rfl⟩ := Option.map_eq_some_iff.mp hg
      obtain ⟨a, C, dx, gs, rfl, hmg, ha, r⟩ := own_ins w ok.sub e0
      obtain ⟨v, hv, rv⟩ := r.look hd
      obtain rfl : u = Value.ref a := rx
      obtain ⟨k1, k2⟩ := h cn hc C (by rw [← e4]; exact hmg)
      exact getattr_ok I1 ha (by rw [e3]; exact k1) (by rw [e3]; exact k2) hv fun u' s2 I2 ru => ⟨v, H1, I2, ru, post_d h2 ok k rv⟩
    · rw [if_neg hc] at hg; cases hg
  · cases hg
end
end Mp
namespace Mp
open PySem PySem.Spec PyProof.Rows L2
section
variable {c : CC} {X : Cx}
/-! ### isinstance -/
def tagOf : D → Option Tag
  | .non => some (.inl "NoneType")
  | .bl _ => some (.inl "bool")
  | .int _ => some (.inl "int")
  | .str _ => some (.inl "str")
  | .lst _ => some (.inl "list")
  | .tup _ => some (.inl "tuple")
  | .dic _ => some (.inl "dict")
  | .ins cn _ => some (.inr cn)
  | _ => none
def clsOf : D → Option Tag
  | .ty n => some (.inl n)
  | .glo x => some (.inr x)
  | _ => none
def TagV (mg : Str → Option Value) : Tag → Value → Prop
  | .inl n, v => v = .type n
  | .inr x, v => ∃ C, mg x = some (.ref C) ∧ v = .ref C
/-- the class object of an own class, as isinstance looks at it -/
structure TyC (K : PySem.W.Frag) (C : Addr) : Prop where
  cl : Cls K C
  ha : PySem.W.findIn K (.ref C) "__class__" = some (some (.builtin "object.__class__"))
  hn : PySem.W.specialIn K (.builtin "object.__class__") "__get__" = some (some (.builtin "getset_descriptor.__get__"))
  htk : PySem.W.takesIn K (.builtin "object.__class__") = some true
  hm : PySem.W.mroIn K C (.type "object") = some true
/-- tb: a value's tag, a class, the answer -/
def IsiOk (c : CC) (tb : List (Tag × Tag × Bool)) : Prop := (∀ p ∈ tb, ∀ tv uv, TagV c.mg p.1 tv → TagV c.mg p.2.1 uv → PySem.W.kitOne c.K tv uv = some p.2.2) ∧ ∀ p ∈ tb, ∀ x C, p.1 = .inr x → c.mg x = some (.ref C) → TyC c.K C
def gIsi (tb : List (Tag × Tag × Bool)) : List D → Option RV
  | [a, k] => match tagOf a with
    | some t => (match clsOf k with
      | some u => (tb.find? fun p => decide (p.1 = t ∧ p.2.1 = u)).map fun p => .d (.bl p.2.2)
      | none => none)
    | none => none
  | _ => none
theorem own_ty {Hs H : Hp} {x : V} {ra : RV} {t : Tag} (w : Own X.K X.mg Hs H x ra) (s : Same Hs H) (e : tagOf ra.fz = some t) (hc : ∀ y C, t = .inr y → X.mg y = some (.ref C) → TyC X.K C) : ∃ tv, TyX X.K H x tv ∧ TagV X.mg t tv := by
  have seq : ∀ {p : Addr} {vs : List V}, SqT X.K H p vs → TyX X.K H (.ref p) (.type "tuple") := fun {p vs} q => by
    rcases q with (q | ⟨o, q⟩) | ⟨o, its, n, h1, h2, _⟩
    · exact .base (.tup q)
    · exact .fTuple q
    · exact .kTuple h1 h2
  generalize ed : ra.fz = d at e
  cases d with
  | non => cases own_non w ed; cases e; exact ⟨_, .base .non, rfl⟩
  | bl b => cases own_bl w ed; cases e; exact ⟨_, .base (.bl b), rfl⟩
  | int i => cases own_int w ed; cases e; exact ⟨_, .base (.int i), rfl⟩
  | str z => cases own_str w ed; cases e; exact ⟨_, .base (.str z), rfl⟩
  | ty _ => cases e
  | glo _ => cases e
  | lst xs => obtain ⟨a, vs, rfl, h, _⟩ := own_lst w s ed; cases e; exact ⟨_, .base (.lst h), rfl⟩
  | tup xs => obtain ⟨a, vs, rfl, h, _⟩ := own_tup w s ed; cases e; exact ⟨_, seq h, rfl⟩
  | dic xs =>
    obtain ⟨a, vs, rfl, h, _⟩ := own_dic w s ed
    cases e
    rcases h with h | ⟨o, h⟩
    · exact ⟨_, .base (.dK h), rfl⟩
    · exact ⟨_, .fDict h, rfl⟩
  | ins cn fs =>
    obtain ⟨a, C, dx, gs, rfl, m, h, _⟩ := own_ins w s ed
    cases e
    have q := hc cn C rfl m
    exact ⟨.ref C, .base (.ins h q.cl q.ha q.hn q.htk q.hm), C, m, rfl⟩
  | scr _ => cases e
theorem k_isi {tb : List (Tag × Tag × Bool)} (hm : c.mg "isinstance" = none) (h : IsiOk c tb) : PrimOk c (.call "isinstance") (funD (gIsi tb)) := cb_of rfl (by decide) (by decide) hm fun X ic =>
  cr_of call_isi fun vs rvs H Hs Kq Q z ok hg k h2 => by
    obtain ⟨e1, e2, e3, e4, e5⟩ := ic.k_
    generalize e : rvs.map RV.fz = l at hg
    unfold gIsi at hg
    split at hg
    · rename_i a kk
      obtain ⟨v, u, ra, rb, rfl, rfl, f1, f2, w1, w2⟩ := argsB ok e
      cases ta : tagOf a with
      | none => rw [ta] at hg; cases hg
      | some t =>
        rw [ta] at hg
        cases tb' : clsOf kk with
        | none => rw [tb'] at hg; cases hg
        | some uu =>
          rw [tb'] at hg
          obtain ⟨p, hp, rfl⟩ := Option.map_eq_some_iff.mp hg
          have hmem := List.mem_of_find?_eq_some hp
          have hpq := List.find?_some hp
          obtain ⟨q1, q2⟩ := of_decide_eq_true hpq
          obtain ⟨tv, ty, tg⟩ := own_ty w1 ok.sub (by rw [f1]; exact ta) fun y C ey hy => by
            rw [e3]; exact h.2 p hmem y C (by rw [q1, ey]) (by rw [← e4]; exact hy)
          have cl : ∃ uv, ClsV u uv ∧ TagV X.mg uu uv := by
            cases kk with
            | ty n =>
              cases tb'
              cases rb with
              | d d => have f2 : d = .ty n := f2; subst f2; cases w2; exact ⟨_, .ty n, rfl⟩
              | _ => cases f2
            | glo x =>
              cases tb'
              cases rb with
              | d d => have f2 : d = .glo x := f2; subst f2; cases w2 with | glo hx => exact ⟨_, .own _, _, hx, rfl⟩
              | _ => cases f2
            | _ => cases tb'
          obtain ⟨uv, hu, tu⟩ := cl
          refine ⟨v, u, tv, uv, p.2.2, rfl, hu, ty, ?_, post_d h2 ok k .bl⟩
          rw [e3]
          exact h.1 p hmem tv uv (by rw [q1, ← e4]; exact tg) (by rw [q2, ← e4]; exact tu)
    · cases hg
end
end Mp
namespace Mp
open PySem PySem.Spec PyProof.Rows L2
section
variable {c : CC} {X : Cx}
/-! ### slices -/
def cutL (xs : List D) (lo hi : Option Int) : List D := (xs.drop (HT.sIx xs.length 0 lo)).take (HT.sIx xs.length xs.length hi - HT.sIx xs.length 0 lo)
theorem cut_reps {K : PySem.W.Frag} {mg : Str → Option Value} {H : Hp} {vs : List V} {xs : List D} (r : Reps K mg H vs xs) (lo hi : Option Int) : Reps K mg H (cutV vs lo hi) (cutL xs lo hi) := by
  unfold cutV cutL
  rw [r.length]
  exact (r.drop _).take _
def cutD (x : D) (lo hi : Option Int) : Option RV := match x with
  | .lst xs => some (.olst (cutL xs lo hi))
  | .tup xs => some (.d (.tup (cutL xs lo hi)))
  | .str z => if z.length ≤ sizeLine then some (.d (.str (Txt.slice z lo hi))) else none
  | _ => none
def gSl (lo hi : Bool) : List D → Option RV
  | x :: r => match lo, hi, r with
    | true, true, [.int i, .int j] => cutD x (some i) (some j)
    | true, false, [.int i] => cutD x (some i) none
    | false, true, [.int j] => cutD x none (some j)
    | false, false, [] => cutD x none none
    | _, _, _ => none
  | _ => none
theorem cut_whole {K : PySem.W.Frag} {mg : Str → Option Value} {H : Hp} {vs : List V} {xs : List D} (r : Reps K mg H vs xs) {lo hi : Option Int} (h : HT.sIx vs.length 0 lo = 0 ∧ HT.sIx vs.length vs.length hi = vs.length) : cutL xs lo hi = xs := by
  unfold cutL
  rw [← r.length, h.1, h.2, r.length]
  simp
theorem gSl_eq {lo hi : Bool} {x : D} {r : List D} {z : RV} : gSl lo hi (x :: r) = some z → ∃ l u : Option Int, l.isSome = lo ∧ u.isSome = hi ∧ r = (l.toList ++ u.toList).map D.int ∧ cutD x l u = some z := by
  show (match lo, hi, r with
    | true, true, [.int i, .int j] => cutD x (some i) (some j)
    | true, false, [.int i] => cutD x (some i) none
    | false, true, [.int j] => cutD x none (some j)
    | false, false, [] => cutD x none none
    | _, _, _ => none) = some z → _
  intro h
  split at h
  · exact ⟨some _, some _, rfl, rfl, rfl, h⟩
  · exact ⟨some _, none, rfl, rfl, rfl, h⟩
  · exact ⟨none, some _, rfl, rfl, rfl, h⟩
  · exact ⟨none, none, rfl, rfl, rfl, h⟩
  · cases h
theorem own_ints {K : PySem.W.Frag} {mg : Str → Option Value} {Hs H : Hp} {x : V} {is js : List Int} {r0 : RV} {rest : List RV} (ok : EnvOk K mg Hs H ((x :: is.map V.int).map some) ((r0 :: rest).map some)) (e : rest.map RV.fz = js.map D.int) : is = js := by
  obtain ⟨_, hl, at_⟩ := args_cons ok
  have l1 : rest.length = js.length := by simpa using congrArg List.length e
  refine List.ext_getElem? fun i => ?_
  by_cases hi : i < js.length
  · have h1 : i < rest.length := by omega
    have h2 : i < is.length := by simp at hl; omega
    obtain ⟨v, ev, w⟩ := at_ i rest[i] (by simp [h1])
    have ef : (rest[i]).fz = .int js[i] := by
      have := congrArg (fun l => l[i]?) e
      simpa [h1, hi] using this
    have q := own_int w ef
    rw [List.getElem?_map, List.getElem?_eq_getElem h2] at ev
    have ev : V.int is[i] = v := by simpa using ev
    rw [q] at ev
    rw [List.getElem?_eq_getElem h2, List.getElem?_eq_getElem hi]
    injection ev with ev
    rw [ev]
  · have h2 : ¬ i < is.length := by simp at hl; omega
    rw [List.getElem?_eq_none (by omega), List.getElem?_eq_none (by omega)]
theorem k_sl (lo hi : Bool) : SliceOk c (funD (gSl lo hi)) lo hi := fun X ic => by
  intro pins s σ H x v vl vu l u sl Q I rx hs pl pu q
  obtain ⟨hl, hu, Hs, rvs, Kq, ok, ⟨z, hg, k⟩, h⟩ := q
  have hlen := ok.len
  match rvs, hlen with
  | r0 :: rest, _ =>
    obtain ⟨l', u', f1, f2, f3, hc⟩ := gSl_eq (x := r0.fz) (r := rest.map RV.fz) hg
    have ei := own_ints ok f3
    have el : l = l' ∧ u = u' := by
      subst f1 f2
      cases l <;> cases l' <;> cases u <;> cases u' <;> simp_all
    obtain ⟨rfl, rfl⟩ := el
    obtain ⟨w, _, _⟩ := args_cons ok
    refine (sl_list.or (sl_tupA.or C8.sl_txt)) pins s σ H x v vl vu l u sl Q I rx hs pl pu ?_
    generalize e0 : r0.fz = d at hc
    unfold cutD at hc
    split at hc
    · cases hc
      obtain ⟨a, vs, rfl, ha, r⟩ := own_lst w ok.sub e0
      exact .inl ⟨a, vs, rfl, SqL.of ha, fun p hp => post_lst h ok k hp (cut_reps r l u)⟩
    · cases hc
      obtain ⟨a, vs, rfl, ha, r⟩ := own_tup w ok.sub e0
      refine .inr (.inl ⟨a, vs, rfl, ha, fun hw => ?_, fun _ p hp => post_tup h ok k hp (cut_reps r l u)⟩)
      rw [cut_whole r hw] at k
      refine post_d h ok k ?_
      cases r0 with
      | d d => have e0 : d = _ := e0; subst e0; exact w
      | _ => cases e0
    · rename_i zz
      by_cases hz : zz.length ≤ sizeLine
      · rw [if_pos hz] at hc; cases hc
        exact .inr (.inr ⟨zz, own_str w e0, hz, post_d h ok k .str⟩)
      · rw [if_neg hz] at hc; cases hc
    · cases hc
  | [], hlen => simp at hlen
/-! ### a constant of a class: C.f -/
/-- each class of l has the constant under f -/
def ValOk (c : CC) (f : Str) (l : List (Str × D)) : Prop := ∀ p ∈ l, ∀ C, c.mg p.1 = some (.ref C) → ∃ mc v u, ClX.CRead c.K C mc ∧ ClX.CVal c.K C mc f v u ∧ ∀ H, Rep c.K c.mg H v p.2
def gVal (l : List (Str × D)) : List D → Option RV
  | [.glo x] => (l.lookup x).map .d
  | _ => none
theorem mem_look {l : List (Str × D)} {x : Str} {d : D} (h : l.lookup x = some d) : (x, d) ∈ l := by
  induction l with
  | nil => cases h
  | cons p l ih =>
    rw [List.lookup_cons] at h
    by_cases e : (x == p.1) = true
    · rw [e] at h
      cases h
      have : x = p.1 := by simpa using e
      subst this
      exact List.mem_cons_self ..
    · have e : (x == p.1) = false := by simpa using e
      rw [e] at h
      exact List.mem_cons_of_mem _ (ih h)
theorem k_val {f : Str} {l : List (Str × D)} (h : ValOk c f l) : PrimOk c (.attr f) (funD (gVal l)) := fun X ic => by
  intro e te pos hb he
  obtain ⟨e1, e2, e3, e4, e5⟩ := ic.k_
  refine ⟨fun pins s σ H Q I q => ?_⟩
  refine attr_of (hb _) (thn (he.run pins s σ H _ I q) fun u s1 ⟨x, H1, I1, rx, q⟩ => ?_)
  obtain ⟨Hs, rvs, Kq, ok, ⟨z, hg, k⟩, h2⟩ := q
  obtain ⟨ra, rfl, w⟩ := args1 ok
  generalize e0 : ([ra].map RV.fz) = ll at hg
  unfold gVal at hg
  split at hg
  · rename_i cn
    have e0 : ra.fz = .glo cn := by simpa using e0
    obtain ⟨d, hd, rfl⟩ := Option.map_eq_some_iff.mp hg
    cases ra with
    | d d0 =>
      have e0 : d0 = .glo cn := e0
      subst e0
      cases w with
      | glo hx =>
        obtain ⟨mc, v, u', r, kv, rd⟩ := h _ (mem_look hd) _ (by rw [← e4]; exact hx)
        obtain rfl : u = Value.ref _ := rx
        exact ClX.getcval_ok I1 (by rw [e3]; exact r) (by rw [e3]; exact kv) fun s2 I2 => ⟨v, H1, I2, kv.rel, post_d h2 ok k (by rw [e3, e4]; exact rd _)⟩
    | _ => cases e0
  · cases hg
end
end Mp
namespace Mp
open PySem PySem.Spec PyProof.Rows L2
/-! ### defaults behind the arguments; a class ahead of them -/
/-- the constants cs are put behind the arguments -/
def addD (cs : List D) (dn : Den) : Den := fun args Q E => dn (args ++ cs.map .d) (fun r rvs' => Q r (rvs'.take args.length)) (fun x rvs' => E x (rvs'.take args.length))
/-- the first argument is left out -/
def tailD (dn : Den) : Den := fun args Q E => ∃ a rest, args = a :: rest ∧ dn rest (fun r rvs' => Q r (a :: rvs')) (fun x rvs' => E x (a :: rvs'))
section
variable {K : PySem.W.Frag} {mg : Str → Option Value} {Hs H Hs' H' : Hp}
theorem env_app {vs ws : List V} {rvs : List RV} {ds : List D} (ok : EnvOk K mg Hs H (vs.map some) (rvs.map some)) (r : ∀ H, Reps K mg H ws ds) : EnvOk K mg Hs H ((vs ++ ws).map some) ((rvs ++ ds.map RV.d).map some) := by
  have hl : vs.length = rvs.length := by have := ok.len; simpa using this
  have key : ∀ (i : Nat) (rv : RV), ((rvs ++ ds.map RV.d).map some)[i]? = some (some rv) → (i < rvs.length ∧ rvs[i]? = some rv) ∨ (rvs.length ≤ i ∧ ∃ d, ds[i - rvs.length]? = some d ∧ rv = .d d) := fun i rv e => by
    have e := mapAt e
    by_cases hi : i < rvs.length
    · rw [List.getElem?_append_left hi] at e; exact .inl ⟨hi, e⟩
    · rw [List.getElem?_append_right (by omega), List.getElem?_map] at e
      obtain ⟨d, hd, rfl⟩ := Option.map_eq_some_iff.mp e
      exact .inr ⟨by omega, d, hd, rfl⟩
  have vl : ∀ (i : Nat), i < rvs.length → ((vs ++ ws).map some)[i]? = (vs.map some)[i]? := fun i hi => by
    rw [List.getElem?_map, List.getElem?_map, List.getElem?_append_left (by omega)]
  refine ⟨ok.sub, by have := (r H).length; simp [hl, this], fun i rv e => ?_, fun i j rv rv' a hij e1 e2 o1 o2 s1 s2 => ?_⟩
  · rcases key i rv e with ⟨hi, e⟩ | ⟨hi, d, hd, rfl⟩
    · obtain ⟨v, e', w⟩ := ok.at_ i rv (mapAt' e)
      exact ⟨v, by rw [vl i hi]; exact e', w⟩
    · obtain ⟨v, hv, rv⟩ := (r Hs).get hd
      exact ⟨v, by rw [List.getElem?_map, List.getElem?_append_right (by omega), hl, hv]; rfl, rv⟩
  · rcases key i rv e1 with ⟨hi, e1⟩ | ⟨_, d, _, rfl⟩
    · rcases key j rv' e2 with ⟨hj, e2⟩ | ⟨_, d, _, rfl⟩
      · exact ok.sep i j rv rv' a hij (mapAt' e1) (mapAt' e2) o1 o2 (by rw [← vl i hi]; exact s1) (by rw [← vl j hj]; exact s2)
      · cases o2
    · cases o1
theorem env_take {vs ws : List V} {rvs : List RV} (ok : EnvOk K mg Hs H ((vs ++ ws).map some) (rvs.map some)) : EnvOk K mg Hs H (vs.map some) ((rvs.take vs.length).map some) := by
  have hl : (vs ++ ws).length = rvs.length := by have := ok.len; simpa using this
  rw [List.length_append] at hl
  have key : ∀ (i : Nat) (rv : RV), ((rvs.take vs.length).map some)[i]? = some (some rv) → i < vs.length ∧ rvs[i]? = some rv := fun i rv e => by
    have e := mapAt e
    rw [List.getElem?_take] at e
    by_cases hi : i < vs.length
    · rw [if_pos hi] at e; exact ⟨hi, e⟩
    · rw [if_neg hi] at e; cases e
  have vl : ∀ (i : Nat), i < vs.length → ((vs ++ ws).map some)[i]? = (vs.map some)[i]? := fun i hi => by
    rw [List.getElem?_map, List.getElem?_map, List.getElem?_append_left hi]
  refine ⟨ok.sub, by simp; omega, fun i rv e => ?_, fun i j rv rv' a hij e1 e2 o1 o2 s1 s2 => ?_⟩
  · obtain ⟨hi, e⟩ := key i rv e
    obtain ⟨v, e', w⟩ := ok.at_ i rv (mapAt' e)
    exact ⟨v, by rw [← vl i hi]; exact e', w⟩
  · obtain ⟨hi, e1⟩ := key i rv e1
    obtain ⟨hj, e2⟩ := key j rv' e2
    exact ok.sep i j rv rv' a hij (mapAt' e1) (mapAt' e2) o1 o2 (by rw [vl i hi]; exact s1) (by rw [vl j hj]; exact s2)
theorem ft_app {vs ws : List V} {rvs : List RV} {ds : List D} {b : Addr} (hl : vs.length = rvs.length) (f : Ft ((vs ++ ws).map some) ((rvs ++ ds.map RV.d).map some) b) : Ft (vs.map some) (rvs.map some) b := by
  obtain ⟨i, rv, e, o, s⟩ := Ft_map.mp f
  by_cases hi : i < rvs.length
  · rw [List.getElem?_append_left hi] at e
    rw [List.getElem?_append_left (by omega)] at s
    exact Ft_map.mpr ⟨i, rv, e, o, s⟩
  · rw [List.getElem?_append_right (by omega), List.getElem?_map] at e
    obtain ⟨d, _, rfl⟩ := Option.map_eq_some_iff.mp e
    cases o
theorem spD_addD {cs : List D} {dn : Den} {vs dvs : List V} {Q : VK} {E : XK} (r : ∀ H, Reps K mg H dvs cs) (h : spD K mg (addD cs dn) vs H Q E) : spD K mg dn (vs ++ dvs) H Q E := by
  obtain ⟨Hs, rvs, Kq, ok, d, h⟩ := h
  have hl : vs.length = rvs.length := by have := ok.len; simpa using this
  refine ⟨Hs, rvs ++ cs.map .d, fun r rvs' => Kq r (rvs'.take rvs.length), env_app ok r, (show dn (rvs ++ cs.map .d) _ _ from d), fun q rvs' k v Hs' H' t ok' sb w fr => ?_⟩
  refine h q _ k v Hs' H' (t.mono fun b f => .inl (ft_app hl f)) (by rw [← hl]; exact env_take ok') (fun i rv' e o => ?_) w fr
  have e := mapAt e
  rw [List.getElem?_take] at e
  by_cases hi : i < rvs.length
  · rw [if_pos hi] at e
    obtain ⟨rv, e', o'⟩ := sb i rv' (mapAt' e) o
    have e' := mapAt e'
    rw [List.getElem?_append_left hi] at e'
    exact ⟨rv, mapAt' e', o'⟩
  · rw [if_neg hi] at e; cases e
theorem ft_tail {x : V} {r : RV} {vs : List V} {rvs : List RV} {b : Addr} (f : Ft (vs.map some) (rvs.map some) b) : Ft ((x :: vs).map some) ((r :: rvs).map some) b := by
  obtain ⟨i, rv, e, o, s⟩ := Ft_map.mp f
  exact Ft_map.mpr ⟨i + 1, rv, by simpa using e, o, by simpa using s⟩
theorem spD_tailD {dn : Den} {x : V} {vs : List V} {Q : VK} {E : XK} (h : spD K mg (tailD dn) (x :: vs) H Q E) : spD K mg dn vs H Q E := by
  obtain ⟨Hs, rvs, Kq, ok, ⟨a, rest, rfl, d⟩, h⟩ := h
  refine ⟨Hs, rest, _, env_tail ok, d, fun q rvs' k v Hs' H' t ok' sb w fr => ?_⟩
  obtain ⟨v0, e0, w0⟩ := ok.at_ 0 a rfl
  cases e0
  have nf : a.own = true → ∀ b, x = .ref b → ¬ Ft (vs.map some) (rest.map some) b := fun o b eb f => by
    obtain ⟨i, rv, e, o', s⟩ := Ft_map.mp f
    exact ok.sep 0 (i + 1) a rv b (by omega) rfl (by simpa using e) o o' (by simp [eb]) (by simpa using s)
  have w0' := w0.keep t nf
  have sb' : Sub ((a :: rest).map some) ((a :: rvs').map some) := fun i rv' e o => by
    cases i with
    | zero => exact ⟨rv', e, o⟩
    | succ i =>
      obtain ⟨rv, e', o'⟩ := sb i rv' (by simpa using e) o
      exact ⟨rv, by simpa using e', o'⟩
  refine h q _ k v Hs' H' (t.mono fun b f => .inl (ft_tail f)) ⟨ok'.sub, by have := ok'.len; simpa using this, fun i rv e => ?_, fun i j rv rv' b hij e1 e2 o1 o2 s1 s2 => ?_⟩ sb' w fr
  · cases i with
    | zero =>
      have e : a = rv := by simpa using e
      subst e
      exact ⟨x, rfl, w0'⟩
    | succ i =>
      obtain ⟨v', e', w'⟩ := ok'.at_ i rv (by simpa using e)
      exact ⟨v', by simpa using e', w'⟩
  · obtain ⟨r1, q1, p1⟩ := sb' i rv e1 o1
    obtain ⟨r2, q2, p2⟩ := sb' j rv' e2 o2
    exact ok.sep i j r1 r2 b hij q1 q2 p1 p2 s1 s2
end
section
variable {c : CC} {X : Cx}
/-- from the caller's Den dn to the def's own dn0 with the defaults dvs -/
def ConvA (c : CC) (dn dn0 : Den) (dvs : List V) : Prop := ∀ (vs : List V) (H : Hp) (Q : VK) (E : XK), spD c.K c.mg dn vs H Q E → spD c.K c.mg dn0 (vs ++ dvs) H Q E
theorem conv0 {dn : Den} : ConvA c dn dn [] := fun vs H Q E h => by rw [List.append_nil]; exact h
theorem convD {dn : Den} {cs : List D} {dvs : List V} (r : ∀ H, Reps c.K c.mg H dvs cs) : ConvA c (addD cs dn) dn dvs := fun vs H Q E h => spD_addD r h
theorem takes_args {f : Value} {pos : Pos} {first : List Value} {es : List Expr} {t : TA} {Q : Value → Shared → Prop} {pins : List (Addr × Obj)} {s : Shared} {σ : L2.St} {H : Hp} {R : List V → Hp → Prop} (I : Inv X pins σ H s) (hk : PySem.W.keepIn X.K f = true) (hns : ∀ e ∈ es, ∀ y q, e ≠ .Starred y q)
    (ha : PA X es t) (h : t σ H R) (go : ∀ us s2 vs H2, Inv X pins σ H2 s2 → Vals vs us → R vs H2 → wpAny (model X.prog X.w) X.A (call f (first ++ us)) Q X.xe s2) :
    wpAny (model X.prog X.w) X.A (callWith pos f first (backTo pos (starEach es X.env)) (backToKw pos (keywordEach [] X.env))) Q X.xe s := by
  match es, ha, hns with
  | [], ha, _ =>
    refine PySem.W.callWith_of rfl (PySem.W.keeps_K hk) (evalArgs_nil (thn (ha.run pos pins s σ H _ I h) fun us s2 ⟨vs, H2, I2, r, q⟩ => ⟨I2.kIn, go us s2 vs H2 I2 r q⟩))
  | e :: es, ha, hns =>
    exact PySem.W.callWith_K (h₀ := X.base) I.ok.mod.kin hk (thn (ha.run pos pins s σ H _ I h) fun us s2 ⟨vs, H2, I2, r, q⟩ => ⟨I2.kIn, go us s2 vs H2 I2 r q⟩) (star_no (hns e (List.mem_cons_self ..)) es X.env) (plain_no pos X.env fun e he => hns e (List.mem_cons_of_mem _ he))
section
variable {x m cn : Str} {j : Nat} {f : Addr} {fd : FuncData} {ps : List Str} {dn dn0 : Den} {dvs : List V} {ds : List Value}
/-- a def by its name, some arguments, then the defaults -/
theorem k_fn (F : FnOk c.P c.w c.K c.mg c.base CX0 j f fd ps (spD c.K c.mg dn0)) (hj : j ≤ c.k) (hm : c.mg x = some (.ref f)) (hk : PySem.W.keepIn c.K (.ref f) = true)
    (hb : Binds c.K fd ps ds) (hd : Vals dvs ds) (cv : ConvA c dn dn0 dvs) (hdb : (x == ("__debug__" : Str)) = false) : PrimOk c (.call x) dn := fun X ic => by
  intro es t p pos hne hg hns ha
  obtain ⟨e1, e2, e3, e4, e5⟩ := ic.k_
  have F' : FnOk X.prog X.w X.K X.mg X.base CX0 j f fd ps (spD X.K X.mg dn0) := by rw [e1, e2, e3, e4, e5]; exact F
  refine ⟨fun pins s σ H Q I h => ?_⟩
  refine wpAny_Call_Name_kw (ld_glob I hg (by rw [e4]; exact hm) ?_ hdb)
  refine takes_args (first := []) I (by rw [e3]; exact hk) hns ha h fun us s2 vs H2 I2 r q => ?_
  exact run_fn F' (ic.room.mono hj) (by rw [e3]; exact hb) hd pass0 I2 r (by rw [e3, e4] at q ⊢; exact cv _ _ _ _ q)
/-- what is looked at: an instance of cn without an attribute m of its own -/
def isIns (cn m : Str) : D → Prop
  | .ins c fs => c = cn ∧ fs.lookup m = none
  | _ => False
def isGlo (cn : Str) : D → Prop
  | .glo x => x = cn
  | _ => False
/-- a method of an own class -/
theorem k_meth (hC : ∀ C, c.mg cn = some (.ref C) → Cls c.K C ∧ Meth c.K C m f) (F : FnOk c.P c.w c.K c.mg c.base CX0 j f fd ps (spD c.K c.mg dn0)) (hj : j ≤ c.k) (hb : Binds c.K fd ps ds) (hd : Vals dvs ds) (cv : ConvA c dn dn0 dvs) : MethOk c m (isIns cn m) dn := by
  intro X ic o es to t apos pos hbase hline hlen hns ho ha
  obtain ⟨e1, e2, e3, e4, e5⟩ := ic.k_
  have F' : FnOk X.prog X.w X.K X.mg X.base CX0 j f fd ps (spD X.K X.mg dn0) := by rw [e1, e2, e3, e4, e5]; exact F
  refine ⟨fun pins s σ H Q I h => ?_⟩
  refine PySem.W.methodCall_KW (pl := plainOf o X.env) (thn (ho.run pins s σ H _ I h) fun u s1 ⟨x, H1, I1, rx, ⟨Hs, rv, sm, w, k⟩, q⟩ => ?_) (mcall_of (hbase _) fun ov => mcall_line (few_no pos X.env hns hlen) hline)
  cases ed : rv.fz with
  | ins c0 fs =>
    rw [ed] at k
    obtain ⟨rfl, hl⟩ := k
    obtain ⟨a, C, dx, gs, rfl, hm, ha1, rf⟩ := own_ins w sm ed
    cases rx
    obtain ⟨k1, k2⟩ := hC C (by rw [← e4]; exact hm)
    rw [← e3] at k1 k2
    refine getmeth_ok I1 ha1 k1 k2 (rf.lookN hl) ?_
    refine takes_args (first := [.ref a]) I1 k2.kp hns ha q fun us s2 vs H2 I2 r q => ?_
    exact run_fn (us := .ref a :: us) (vs := .ref a :: vs) F' (ic.room.mono hj) (by rw [e3]; exact hb) hd pass0 I2 (.cons rfl r) (by rw [e3, e4] at q ⊢; exact cv _ _ _ _ q)
  | _ => rw [ed] at k; exact k.elim
/-- what of the text a class with a static method must have -/
structure Sta (K : PySem.W.Frag) (C : Addr) (m : Str) (p g : Addr) : Prop where
  rd : PySem.W.readsIn K C (.type "type") = true
  ga : PySem.W.specialIn K (.ref C) "__getattribute__" = some (some (.builtin "type.__getattribute__"))
  at_ : PySem.W.findCls K (.ref C) (.type "type") m = some (.get (.builtin "staticmethod.__get__") (.ref p) .none (.ref C))
  rc : ∃ rest, PySem.W.recIn K p "staticmethod" = some (.ref g :: rest)
  hd : PySem.W.handedIn (.ref g) = true
  kp : PySem.W.keepIn K (.ref g) = true
/-- C.m(..), a static method -/
theorem k_stat (hC : ∀ C, c.mg cn = some (.ref C) → ∃ p, Sta c.K C m p f) (F : FnOk c.P c.w c.K c.mg c.base CX0 j f fd ps (spD c.K c.mg dn0)) (hj : j ≤ c.k) (hb : Binds c.K fd ps ds) (hd : Vals dvs ds) (cv : ConvA c dn dn0 dvs) : MethOk c m (isGlo cn) (tailD dn) := by
  intro X ic o es to t apos pos hbase hline hlen hns ho ha
  obtain ⟨e1, e2, e3, e4, e5⟩ := ic.k_
  have F' : FnOk X.prog X.w X.K X.mg X.base CX0 j f fd ps (spD X.K X.mg dn0) := by rw [e1, e2, e3, e4, e5]; exact F
  refine ⟨fun pins s σ H Q I h => ?_⟩
  refine PySem.W.methodCall_KW (pl := plainOf o X.env) (thn (ho.run pins s σ H _ I h) fun u s1 ⟨x, H1, I1, rx, ⟨Hs, rv, sm, w, k⟩, q⟩ => ?_) (mcall_of (hbase _) fun ov => mcall_line (few_no pos X.env hns hlen) hline)
  cases ed : rv.fz with
  | glo x0 =>
    rw [ed] at k
    have k : x0 = cn := k
    subst k
    cases rv with
    | d d0 =>
      have ed : d0 = .glo x0 := ed
      subst ed
      cases w with
      | glo hm =>
        rename_i C
        cases rx
        obtain ⟨p, S⟩ := hC C (by rw [← e4]; exact hm)
        rw [← e3] at S
        obtain ⟨rest, hp⟩ := S.rc
        refine PySem.W.method_cls I1.kIn S.ga (PySem.W.cls_bind I1.kIn S.rd S.at_ (wpAny_call (PySem.W.sm_get (s := { s1 with toks := s1.toks + 1 }) I1.kIn hp (PySem.W.handed_on S.hd ?_))))
        refine takes_args (first := []) (I1.tok _) S.kp hns ha q fun us s2 vs H2 I2 r q => ?_
        exact run_fn F' (ic.room.mono hj) (by rw [e3]; exact hb) hd pass0 I2 r (by rw [e3, e4] at q ⊢; exact cv _ _ _ _ (spD_tailD q))
    | _ => cases ed
  | _ => rw [ed] at k; exact k.elim
end
end
end Mp
namespace Mp
open PySem PySem.Spec PyProof.Rows L2
section
variable {c : CC} {X : Cx}
/-- from the caller's Den, positional values then keywords' values, to the def's own order gV -/
def ConvK (c : CC) (n m : Nat) (dn dn0 : Den) (gV : List V → List V → List V) : Prop := ∀ (vs zs : List V) (H : Hp) (Q : VK) (E : XK), vs.length = n → zs.length = m → spD c.K c.mg dn (vs ++ zs) H Q E → spD c.K c.mg dn0 (gV vs zs) H Q E
theorem convK0 {n m : Nat} {dn : Den} : ConvK c n m dn dn (fun vs zs => vs ++ zs) := fun _ _ _ _ _ _ _ h => h
theorem convKD {n m : Nat} {dn : Den} {cs : List D} {dvs : List V} (r : ∀ H, Reps c.K c.mg H dvs cs) : ConvK c n m (addD cs dn) dn (fun vs zs => (vs ++ zs) ++ dvs) := fun _ _ _ _ _ _ _ h => spD_addD r h
theorem kw_some {ks : List Str} {kws : List Keyword} {pos : Pos} {env : PySem.Env} (h : kws.map (·.arg) = ks.map some) : (backToKw pos (keywordEach kws env)).all (·.1.isSome) = true ∧ (backToKw pos (keywordEach kws env)).filterMap (·.1) = ks ∧ (backToKw pos (keywordEach kws env)).any (·.1.isNone) = false := by
  induction kws generalizing ks with
  | nil =>
    cases ks with
    | nil => exact ⟨rfl, rfl, rfl⟩
    | cons _ _ => simp at h
  | cons k r ih =>
    cases ks with
    | nil => simp at h
    | cons y ys =>
      obtain ⟨a, v, p⟩ := k
      simp only [List.map_cons, List.cons.injEq] at h
      obtain ⟨rfl, h⟩ := h
      obtain ⟨q1, q2, q3⟩ := ih h
      refine ⟨?_, ?_, ?_⟩
      · show (true && (backToKw pos (keywordEach r env)).all (fun x => x.1.isSome)) = true
        rw [q1]; rfl
      · show y :: (backToKw pos (keywordEach r env)).filterMap (fun x => x.1) = _
        rw [q2]
      · show (false || (backToKw pos (keywordEach r env)).any (fun x => x.1.isNone)) = false
        rw [q3]; rfl
theorem evalArgs_nilK {M : Model} {A : Around} {E : Value → Shared → Prop} {s : Shared} {f : Value} {Q : Args → Shared → Prop} {kws : List (Option Str × Sem Value)} (hall : kws.all (fun x => x.1.isSome) = true)
    (h : wpAny M A (spliced []) (fun vs s' => wpAny M A (evalAll (kws.map (·.2))) (fun ks s2 => Q ⟨vs, (kws.filterMap (·.1)).zip ks⟩ s2) E s') E s) : wpAny M A (evalArgs f true [] kws) Q E s := by
  unfold evalArgs
  show wpAny M A (spliced [] >>= _) Q E s
  refine wpAny_bind (wpAny_mono h (fun vs s' h' => ?_) fun _ _ x => x)
  refine wpAny_bind (wpAny_pure ?_)
  refine wpAny_holding ?_
  dsimp only
  rw [if_pos hall]
  refine wpAny_bind (wpAny_mono h' (fun ks s2 q => ?_) fun _ _ x => x)
  exact wpAny_bind (wpAny_pure (wpAny_bind (wpAny_pure (wpAny_pure q))))
theorem takes_kw {f : Value} {pos : Pos} {es : List Expr} {kws : List Keyword} {ks : List Str} {t tk : TA} {Q : Value → Shared → Prop} {pins : List (Addr × Obj)} {s : Shared} {σ : L2.St} {H : Hp} {R : List V → List V → Hp → Prop} (I : Inv X pins σ H s) (hk : PySem.W.keepIn X.K f = true) (hns : ∀ e ∈ es, ∀ y q, e ≠ .Starred y q)
    (hkw : kws.map (·.arg) = ks.map some) (ha : PA X es t) (hb : PK X kws tk) (h : t σ H fun vs H1 => tk σ H1 fun zs H2 => R vs zs H2) (go : ∀ us ws s2 vs zs H2, Inv X pins σ H2 s2 → Vals vs us → Vals zs ws → R vs zs H2 → wpAny (model X.prog X.w) X.A (call f us (ks.zip ws)) Q X.xe s2) :
    wpAny (model X.prog X.w) X.A (callWith pos f [] (backTo pos (starEach es X.env)) (backToKw pos (keywordEach kws X.env))) Q X.xe s := by
  obtain ⟨q1, q2, q3⟩ := kw_some (pos := pos) (env := X.env) hkw
  match es, ha, hns with
  | [], ha, _ =>
    refine PySem.W.callWith_of (by rw [q3]; rfl) (PySem.W.keeps_K hk) (evalArgs_nilK q1 (thn (ha.run pos pins s σ H _ I h) fun us s1 ⟨vs, H1, I1, r, q⟩ => ?_))
    refine thn (hb.run pos pins s1 σ H1 _ I1 q) fun ws s2 ⟨zs, H2, I2, rz, q4⟩ => ⟨I2.kIn, ?_⟩
    rw [q2]
    exact go us ws s2 vs zs H2 I2 r rz q4
  | e :: es, ha, hns =>
    have hst := star_no (hns e (List.mem_cons_self ..)) es X.env
    have hpl := plain_no pos X.env (es := es) fun e he => hns e (List.mem_cons_of_mem _ he)
    refine PySem.W.callWith_KW (h₀ := X.base) (first := []) I.ok.mod.kin hk q1 (thn (ha.run pos pins s σ H _ I h) fun us s1 ⟨vs, H1, I1, r, q⟩ => ?_) (by rw [q3, hst]; show ((false || (backTo pos (starEach es X.env)).any (·.1)) || false) = false; rw [hpl]; rfl) hst
    refine thn (hb.run pos pins s1 σ H1 _ I1 q) fun ws s2 ⟨zs, H2, I2, rz, q4⟩ => ⟨I2.kIn, ?_⟩
    rw [q2]
    exact go us ws s2 vs zs H2 I2 r rz q4
section
variable {x cn : Str} {j n : Nat} {f C : Addr} {fd : FuncData} {ps ks : List Str} {dn dn0 : Den} {g : List Value → List Value → List Value} {gV : List V → List V → List V}
/-- f(.., k = v, ..) -/
theorem k_fnk (F : FnOk c.P c.w c.K c.mg c.base CX0 j f fd ps (spD c.K c.mg dn0)) (hj : j ≤ c.k) (hm : c.mg x = some (.ref f)) (hk : PySem.W.keepIn c.K (.ref f) = true) (hb : KBn c.K fd ps n ks g gV) (cv : ConvK c n ks.length dn dn0 gV) (hdb : (x == ("__debug__" : Str)) = false) :
    CallKOk c x n ks dn := fun X ic => by
  intro es kws t tk p pos hn hkw hg hns ha hb2
  obtain ⟨e1, e2, e3, e4, e5⟩ := ic.k_
  have F' : FnOk X.prog X.w X.K X.mg X.base CX0 j f fd ps (spD X.K X.mg dn0) := by rw [e1, e2, e3, e4, e5]; exact F
  refine ⟨fun pins s σ H Q I h => ?_⟩
  refine wpAny_Call_Name_kw (ld_glob I hg (by rw [e4]; exact hm) ?_ hdb)
  refine takes_kw I (by rw [e3]; exact hk) hns hkw ha hb2 h fun us ws s2 vs zs H2 I2 r rz q => ?_
  obtain ⟨l1, l2, q⟩ := q
  exact run_fnN F' (ic.room.mono hj) (by rw [e3]; exact hb) pass0 I2 r rz l1 l2 (by rw [e3, e4] at q ⊢; exact cv _ _ _ _ _ l1 l2 q)
theorem kwV_len {vs : List V} {us : List Value} (r : Vals vs us) : vs.length = us.length := r.length
/-- C(.., k = v, ..) -/
theorem k_mkk (M : Mk c.K C f) (F : FnOk c.P c.w c.K c.mg c.base CX0 j f fd ps (spD c.K c.mg dn0)) (hj : j + 1 ≤ c.k) (hm : c.mg x = some (.ref C)) (hb : KBn c.K fd ps (n + 1) ks g gV) (cv : ConvK c (n + 1) ks.length dn dn0 gV) (hdb : (x == ("__debug__" : Str)) = false) :
    CallKOk c x n ks (mkD x dn) := fun X ic => by
  intro es kws t tk p pos hn hkw hg hns ha hb2
  obtain ⟨e1, e2, e3, e4, e5⟩ := ic.k_
  have F' : FnOk X.prog X.w X.K X.mg X.base CX0 j f fd ps (spD X.K X.mg dn0) := by rw [e1, e2, e3, e4, e5]; exact F
  have M' : Mk X.K C f := by rw [e3]; exact M
  refine ⟨fun pins s σ H Q I h => ?_⟩
  refine wpAny_Call_Name_kw (ld_glob I hg (by rw [e4]; exact hm) ?_ hdb)
  refine takes_kw I M'.kp hns hkw ha hb2 h fun us ws s2 vs zs H2 I2 r rz q => ?_
  obtain ⟨l1, l2, q⟩ := q
  refine run_makeK M' F' (ic.room.mono hj) (by rw [e3]; exact hb) pass0 I2 r rz l1 l2 fun x0 dx n1 n2 ne => ?_
  have z := make_conv (E' := E0) (by rw [e4]; exact hm) q x0 dx n1 n2 ne
  rw [e3, e4] at z ⊢
  exact cv (.ref x0 :: vs) zs _ _ _ (by rw [List.length_cons, l1]) l2 z
/-- C(..), then the defaults -/
theorem k_mk {dvs : List V} {ds : List Value} (M : Mk c.K C f) (F : FnOk c.P c.w c.K c.mg c.base CX0 j f fd ps (spD c.K c.mg dn0)) (hj : j + 1 ≤ c.k) (hm : c.mg x = some (.ref C)) (hb : Binds c.K fd ps ds) (hd : Vals dvs ds) (cv : ConvA c dn dn0 dvs) (hdb : (x == ("__debug__" : Str)) = false) :
    PrimOk c (.call x) (mkD x dn) := fun X ic => by
  intro es t p pos hne hg hns ha
  obtain ⟨e1, e2, e3, e4, e5⟩ := ic.k_
  have F' : FnOk X.prog X.w X.K X.mg X.base CX0 j f fd ps (spD X.K X.mg dn0) := by rw [e1, e2, e3, e4, e5]; exact F
  have M' : Mk X.K C f := by rw [e3]; exact M
  refine ⟨fun pins s σ H Q I h => ?_⟩
  refine wpAny_Call_Name_kw (ld_glob I hg (by rw [e4]; exact hm) ?_ hdb)
  refine takes_args (first := []) I M'.kp hns ha h fun us s2 vs H2 I2 r q => ?_
  refine run_make (E := E0) M' F' (ic.room.mono hj) (by rw [e3]; exact hb) hd pass0 I2 r fun x0 dx n1 n2 ne => ?_
  have z := make_conv (E' := E0) (by rw [e4]; exact hm) q x0 dx n1 n2 ne
  rw [e3, e4] at z ⊢
  exact cv (.ref x0 :: vs) _ _ _ z
/-- C() -/
theorem k_mk0 {dvs : List V} {ds : List Value} (M : Mk c.K C f) (F : FnOk c.P c.w c.K c.mg c.base CX0 j f fd ps (spD c.K c.mg dn0)) (hj : j + 1 ≤ c.k) (hm : c.mg x = some (.ref C)) (hb : Binds c.K fd ps ds) (hd : Vals dvs ds) (cv : ConvA c dn dn0 dvs) (hdb : (x == ("__debug__" : Str)) = false) :
    PrimOk c (.call0 x) (mkD x dn) := fun X ic => by
  intro p pos hg
  obtain ⟨e1, e2, e3, e4, e5⟩ := ic.k_
  have F' : FnOk X.prog X.w X.K X.mg X.base CX0 j f fd ps (spD X.K X.mg dn0) := by rw [e1, e2, e3, e4, e5]; exact F
  have M' : Mk X.K C f := by rw [e3]; exact M
  refine ⟨fun pins s σ H Q I h => ?_⟩
  refine wpAny_Call_Name_kw (ld_glob I hg (by rw [e4]; exact hm) ?_ hdb)
  refine takes_args (first := []) (es := []) (t := tNil) (R := fun vs H1 => vs = [] ∧ H1 = H) I M'.kp (fun e he => by cases he) pa_nil ⟨rfl, rfl⟩ fun us s2 vs H2 I2 r ⟨ev, eH⟩ => ?_
  subst ev eH
  refine run_make (E := E0) M' F' (ic.room.mono hj) (by rw [e3]; exact hb) hd pass0 I2 r fun x0 dx n1 n2 ne => ?_
  have z := make_conv (E' := E0) (by rw [e4]; exact hm) h x0 dx n1 n2 ne
  rw [e3, e4] at z ⊢
  exact cv [.ref x0] _ _ _ z
/-- a property of an own class -/
def clsD (cn : Str) (dn : Den) : Den := fun args Q E => (∃ r fs, args = [r] ∧ r.fz = .ins cn fs) ∧ dn args Q E
theorem k_prop {a : Str} (hC : ∀ C, c.mg cn = some (.ref C) → Cls c.K C ∧ ∃ p, PropOf c.K C a p f) (F : FnOk c.P c.w c.K c.mg c.base CX0 j f fd ps (spD c.K c.mg dn)) (hj : j + 1 ≤ c.k) (hb : Binds c.K fd ps []) : PrimOk c (.attr a) (clsD cn dn) := fun X ic => by
  intro e te pos hbase he
  obtain ⟨e1, e2, e3, e4, e5⟩ := ic.k_
  have F' : FnOk X.prog X.w X.K X.mg X.base CX0 j f fd ps (spD X.K X.mg dn) := by rw [e1, e2, e3, e4, e5]; exact F
  refine ⟨fun pins s σ H Q I q => ?_⟩
  refine attr_of (hbase _) (thn (he.run pins s σ H _ I q) fun u s1 ⟨x, H1, I1, rx, q⟩ => ?_)
  obtain ⟨Hs, rvs, Kq, ok, ⟨⟨r, fs, rfl, er⟩, d⟩, h2⟩ := q
  obtain ⟨ra, era, w⟩ := args1 ok
  cases era
  obtain ⟨b, C, dx, gs, rfl, hm, hb1, rf⟩ := own_ins w ok.sub er
  cases rx
  obtain ⟨k1, p, k2⟩ := hC C (by rw [← e4]; exact hm)
  rw [← e3] at k1 k2
  exact getprop_ok (E := E0) I1 hb1 k1 k2 F' (ic.room.mono hj) (by rw [e3]; exact hb) .nil pass0 ⟨Hs, [r], Kq, ok, d, h2⟩
end
end
end Mp
namespace Mp
open PySem PySem.Spec PyProof.Rows L2
/-! ### step by step through a reading -/
section
variable {E : XE} {env env' : En} {i j : Nat} {x : D} {r : RV} {e a b : SE} {es args : SEs} {dn : Den} {g : List D → Option RV} {avs : List AV} {rvs rest : List RV}
theorem v_var {K : AV → En → Prop} (h : env[i]? = some (some (.d x))) (k : K (.rv (.d x)) env) : (den2 E (.var i)).v env K := ⟨_, h, k⟩
theorem v_varO {K : AV → En → Prop} (h : env[i]? = some (some r)) (o : r.own = true) (k : K (.slot i) env) : (den2 E (.var i)).v env K := by
  refine ⟨_, h, ?_⟩
  cases r with
  | d x => cases o
  | _ => exact k
theorem v_lit {K : AV → En → Prop} {c : Lit} (k : K (.rv (.d c.d)) env) : (den2 E (.lit c)).v env K := k
theorem v_glo {K : AV → En → Prop} {y : Str} (k : K (.rv (.d x)) env) : (den2 E (.glo y x)).v env K := k
theorem v_prim {K : AV → En → Prop} {sh : Shape} (h : denA E args env fun avs env1 => callDen dn avs env1 K E) : (den2 E (.prim sh dn args)).v env K := h
theorem v_meth {K : AV → En → Prop} {ck : D → Prop} {m : Str} (h : (den2 E e).v env fun av env1 => (∃ rv, av.get env1 = some rv ∧ ck rv.fz) ∧ denA E args env1 fun avs env2 => callDen dn (av :: avs) env2 K E) : (den2 E (.meth ck m dn e args)).v env K := h
theorem v_slice {K : AV → En → Prop} {lo hi : SEs} (h : (den2 E a).v env fun av env1 => denDs E lo env1 fun ls env2 => (∀ d ∈ ls, ∃ i, d = .int i) ∧ denDs E hi env2 fun hs env3 => (∀ d ∈ hs, ∃ i, d = .int i) ∧ callDen dn (av :: (ls ++ hs).map fun d => .rv (.d d)) env3 K E) : (den2 E (.slice dn a lo hi)).v env K := h
theorem v_bool {K : AV → En → Prop} {p : Bool} (h : denBV E p es env K) : (den2 E (.boolv p es)).v env K := h
theorem v_not {K : AV → En → Prop} (h : (den2 E e).v env fun av env0 => frz av env0 fun d env1 => ∃ b, d = .bl b ∧ K (.rv (.d (.bl (!b)))) env1) : (den2 E (.notv e)).v env K := h
theorem v_ite {K : AV → En → Prop} (h : (den2 E e).t env fun c env1 => if c = true then (den2 E a).v env1 K else (den2 E b).v env1 K) : (den2 E (.ite e a b)).v env K := h
theorem v_chain {K : AV → En → Prop} {o1 o2 : CmpOp} {d1 d2 : Den} {c : SE} (h : (den2 E a).v env fun av env0 => frz av env0 fun x env1 => (den2 E b).v env1 fun av2 env2 => frz av2 env2 fun y env3 => callDen d1 [.rv (.d x), .rv (.d y)] env3 (fun r env4 => ∃ k, r = .rv (.d (.bl k)) ∧ (if k = true then
      kept (den2 E c).v env4 (fun z env5 => callDen d2 [.rv (.d y), .rv (.d z)] env5 K E) else K (.rv (.d (.bl false))) env4)) E) : (den2 E (.chain o1 d1 o2 d2 a b c)).v env K := h
theorem v_lst {K : AV → En → Prop} (h : denDs E es env fun ds env1 => ds.length ≤ sizeLine ∧ K (.rv (.olst ds)) env1) : (den2 E (.lst es)).v env K := h
theorem v_tup {K : AV → En → Prop} (h : denDs E es env fun ds env1 => ds.length ≤ sizeLine ∧ K (.rv (.d (.tup ds))) env1) : (den2 E (.tup es)).v env K := h
theorem v_dct {K : AV → En → Prop} (h : denDs E es env fun ds env1 => ∃ kvs, pairsD ds = some kvs ∧ kvs.length ≤ 15 ∧ K (.rv (.odic (mergeD [] kvs))) env1) : (den2 E (.dct es)).v env K := h
theorem v_star2 {K : AV → En → Prop} (h : (den2 E a).v env fun av env0 => frz av env0 fun x env1 => ∃ k1, x = .dic k1 ∧ k1.length ≤ sizeLine ∧ kept (den2 E b).v env1 fun y env2 => ∃ k2, y = .dic k2 ∧ k1.length + k2.length ≤ sizeLine ∧ K (.rv (.odic (mergeD (mergeD [] k1) k2))) env2) : (den2 E (.star2 a b)).v env K := h
theorem v_starkv {K : AV → En → Prop} {c : SE} (h : (den2 E a).v env fun av env0 => frz av env0 fun x env1 => ∃ k1, x = .dic k1 ∧ k1.length < sizeLine ∧ kept (den2 E b).v env1 fun y env2 => kept (den2 E c).v env2 fun z env3 => ∃ ky, keyOf y = some ky ∧ K (.rv (.odic (putD (mergeD [] k1) ky z))) env3) : (den2 E (.starkv a b c)).v env K := h
theorem v_callk {K : AV → En → Prop} {x : Str} {ks : List Str} {kargs : SEs} (h : denA E args env fun avs env1 => denDs E kargs env1 fun ds env2 => avs.length = args.len ∧ ds.length = kargs.len ∧ callDen dn (avs ++ ds.map fun d => .rv (.d d)) env2 K E) : (den2 E (.callk x dn args ks kargs)).v env K := h
theorem v_callss {K : AV → En → Prop} {x : Str} (h : (den2 E e).v env fun av env0 => frz av env0 fun x env1 => callDen dn [.rv (.d x)] env1 K E) : (den2 E (.callss x dn e)).v env K := h
theorem v_int {K : AV → En → Prop} {n : Int} (k : K (.rv (.d (.int n))) env) : (den2 E (.lit (.int n))).v env K := k
theorem v_str {K : AV → En → Prop} {n : Str} (k : K (.rv (.d (.str n))) env) : (den2 E (.lit (.str n))).v env K := k
theorem v_bl {K : AV → En → Prop} {n : Bool} (k : K (.rv (.d (.bl n))) env) : (den2 E (.lit (.bl n))).v env K := k
theorem v_non {K : AV → En → Prop} (k : K (.rv (.d .non)) env) : (den2 E (.lit .non)).v env K := k
theorem v_frz {K : AV → En → Prop} (h : (den2 E e).v env fun av env1 => frz av env1 fun x env1 => K (.rv (.d x)) env1) : (den2 E (.frzv e)).v env K := h
theorem f_d {K : D → En → Prop} (k : K x env) : frz (.rv (.d x)) env K := k
theorem f_l {K : D → En → Prop} {xs : List D} (k : K (.lst xs) env) : frz (.rv (.olst xs)) env K := k
theorem f_dic {K : D → En → Prop} {xs : List (Key × D)} (k : K (.dic xs) env) : frz (.rv (.odic xs)) env K := k
theorem f_ins {K : D → En → Prop} {c : Str} {xs : List (Str × D)} (k : K (.ins c xs) env) : frz (.rv (.oins c xs)) env K := k
theorem f_sl {K : D → En → Prop} {xs : List D} (h : env[i]? = some (some (.olst xs))) (k : K (.lst xs) (env.set i (some (.d (.lst xs))))) : frz (.slot i) env K := ⟨_, h, k⟩
theorem f_sdic {K : D → En → Prop} {xs : List (Key × D)} (h : env[i]? = some (some (.odic xs))) (k : K (.dic xs) (env.set i (some (.d (.dic xs))))) : frz (.slot i) env K := ⟨_, h, k⟩
theorem f_sins {K : D → En → Prop} {c : Str} {xs : List (Str × D)} (h : env[i]? = some (some (.oins c xs))) (k : K (.ins c xs) (env.set i (some (.d (.ins c xs))))) : frz (.slot i) env K := ⟨_, h, k⟩
/-! tests -/
theorem t_tst {v : En → (AV → En → Prop) → Prop} {K : Bool → En → Prop} (h : v env fun av env1 => ∃ rv b, av.get env1 = some rv ∧ truth rv.fz = some b ∧ K b env1) : tst v env K := h
theorem t_var {K : Bool → En → Prop} (h : (den2 E (.var i)).v env fun av env1 => ∃ rv b, av.get env1 = some rv ∧ truth rv.fz = some b ∧ K b env1) : (den2 E (.var i)).t env K := h
theorem t_lit {K : Bool → En → Prop} {c : Lit} {b : Bool} (h : truth c.d = some b) (k : K b env) : (den2 E (.lit c)).t env K := ⟨_, b, rfl, h, k⟩
theorem t_cmp {K : Bool → En → Prop} {op : CmpOp} (h : denA E args env fun avs env1 => callDen dn avs env1 (fun r env2 => ∃ k, r = .rv (.d (.bl k)) ∧ K k env2) E) : (den2 E (.prim (.cmp op) dn args)).t env K := h
theorem t_call {K : Bool → En → Prop} {y : Str} (h : denA E args env fun avs env1 => callDen dn avs env1 (fun av env1 => ∃ rv b, av.get env1 = some rv ∧ truth rv.fz = some b ∧ K b env1) E) : (den2 E (.prim (.call y) dn args)).t env K := h
theorem t_call0 {K : Bool → En → Prop} {y : Str} (h : denA E args env fun avs env1 => callDen dn avs env1 (fun av env1 => ∃ rv b, av.get env1 = some rv ∧ truth rv.fz = some b ∧ K b env1) E) : (den2 E (.prim (.call0 y) dn args)).t env K := h
theorem t_sub {K : Bool → En → Prop} (h : denA E args env fun avs env1 => callDen dn avs env1 (fun av env1 => ∃ rv b, av.get env1 = some rv ∧ truth rv.fz = some b ∧ K b env1) E) : (den2 E (.prim .sub dn args)).t env K := h
theorem t_attr {K : Bool → En → Prop} {f : Str} (h : denA E args env fun avs env1 => callDen dn avs env1 (fun av env1 => ∃ rv b, av.get env1 = some rv ∧ truth rv.fz = some b ∧ K b env1) E) : (den2 E (.prim (.attr f) dn args)).t env K := h
theorem t_bin {K : Bool → En → Prop} {f : Operator} (h : denA E args env fun avs env1 => callDen dn avs env1 (fun av env1 => ∃ rv b, av.get env1 = some rv ∧ truth rv.fz = some b ∧ K b env1) E) : (den2 E (.prim (.bin f) dn args)).t env K := h
theorem t_meth {K : Bool → En → Prop} {ck : D → Prop} {m : Str} (h : (den2 E e).v env fun av env1 => (∃ rv, av.get env1 = some rv ∧ ck rv.fz) ∧ denA E args env1 fun avs env2 => callDen dn (av :: avs) env2 (fun av env1 => ∃ rv b, av.get env1 = some rv ∧ truth rv.fz = some b ∧ K b env1) E) : (den2 E (.meth ck m dn e args)).t env K := h
theorem t_bool {K : Bool → En → Prop} {p : Bool} (h : denBT E p es env K) : (den2 E (.boolv p es)).t env K := h
theorem t_not {K : Bool → En → Prop} (h : (den2 E e).t env fun b env1 => K (!b) env1) : (den2 E (.notv e)).t env K := h
theorem t_ite {K : Bool → En → Prop} (h : (den2 E e).t env fun c env1 => if c = true then (den2 E a).t env1 K else (den2 E b).t env1 K) : (den2 E (.ite e a b)).t env K := h
theorem t_chain {K : Bool → En → Prop} {o1 o2 : CmpOp} {d1 d2 : Den} {c : SE} (h : (den2 E a).v env fun av env0 => frz av env0 fun x env1 => (den2 E b).v env1 fun av2 env2 => frz av2 env2 fun y env3 => callDen d1 [.rv (.d x), .rv (.d y)] env3 (fun r env4 => ∃ k, r = .rv (.d (.bl k)) ∧ (if k = true then
      kept (den2 E c).v env4 (fun z env5 => callDen d2 [.rv (.d y), .rv (.d z)] env5 (fun r' env5 => ∃ k', r' = .rv (.d (.bl k')) ∧ K k' env5) E) else K false env4)) E) : (den2 E (.chain o1 d1 o2 d2 a b c)).t env K := h
theorem bt_one {K : Bool → En → Prop} {p : Bool} (h : (den2 E e).t env K) : denBT E p (.cons e .nil) env K := h
theorem bt_cons {K : Bool → En → Prop} {p : Bool} {e2 : SE} {r : SEs} (h : (den2 E e).t env fun b env1 => if b = p then denBT E p (.cons e2 r) env1 K else K b env1) : denBT E p (.cons e (.cons e2 r)) env K := h
theorem bv_one {K : AV → En → Prop} {p : Bool} (h : (den2 E e).v env K) : denBV E p (.cons e .nil) env K := h
theorem bv_cons {K : AV → En → Prop} {p : Bool} {e2 : SE} {r : SEs} (h : (den2 E e).v env fun av env1 => ∃ b, av = .rv (.d (.bl b)) ∧ (if b = p then denBV E p (.cons e2 r) env1 K else K (.rv (.d (.bl b))) env1)) : denBV E p (.cons e (.cons e2 r)) env K := h
/-! arguments, items -/
theorem a_nil {K : List AV → En → Prop} (k : K [] env) : denA E .nil env K := k
theorem a_cons {K : List AV → En → Prop} (h : (den2 E e).v env fun av env1 => denA E es env1 fun avs env2 => K (av :: avs) env2) : denA E (.cons e es) env K := h
theorem d_nil {K : List D → En → Prop} (k : K [] env) : denDs E .nil env K := k
theorem d_cons {K : List D → En → Prop} (h : (den2 E e).v env fun av env1 => frz av env1 fun d env2 => denDs E es env2 fun ds env3 => K (d :: ds) env3) : denDs E (.cons e es) env K := h
theorem d_star {K : List D → En → Prop} (h : (den2 E e).v env fun av env1 => frz av env1 fun d env2 => ∃ xs, seqOf d = some xs ∧ (∀ s, d ≠ .str s) ∧ denDs E es env2 fun ds env3 => K (xs ++ ds) env3) : denDs E (.star e es) env K := h
theorem f_kept {v : En → (AV → En → Prop) → Prop} {K : D → En → Prop} (h : v env fun av env1 => frz av env1 K) : kept v env K := h
theorem f_rv {K : D → En → Prop} (k : K r.fz env) : frz (.rv r) env K := k
theorem f_slot {K : D → En → Prop} (h : env[i]? = some (some r)) (k : K r.fz (env.set i (some (.d r.fz)))) : frz (.slot i) env K := ⟨r, h, k⟩
theorem k_bl {K : Bool → En → Prop} {k : Bool} (h : K k env) : ∃ b, AV.rv (.d (.bl k)) = .rv (.d (.bl b)) ∧ K b env := ⟨k, rfl, h⟩
theorem k_blD {K : Bool → En → Prop} {k : Bool} (h : K k env) : ∃ b, D.bl k = .bl b ∧ K b env := ⟨k, rfl, h⟩
/-! calls -/
theorem puts_same : ∀ {avs : List AV} {rvs : List RV} {env : En}, gets env avs = some rvs → puts env avs rvs = env
  | [], rvs, env, h => by cases h; rfl
  | a :: r, rvs, env, h => by
    unfold gets at h
    cases ea : a.get env with
    | none => rw [ea] at h; cases h
    | some y =>
      rw [ea] at h
      obtain ⟨ys, h1, rfl⟩ := Option.map_eq_some_iff.mp h
      cases a with
      | rv z => exact puts_same (avs := r) h1
      | slot i =>
        have e : (env[i]?).join = some y := ea
        have e1 := join_some e
        have : env.set i (some y) = env := by
          apply List.ext_getElem?
          intro j
          by_cases hj : j = i
          · subst hj
            rw [List.getElem?_set_self (List.getElem?_eq_some_iff.mp e1).1, e1]
          · rw [List.getElem?_set_ne (Ne.symm hj)]
        show puts (env.set i (some y)) r ys = env
        rw [this]; exact puts_same h1
theorem c_fun {K : AV → En → Prop} (nd : (slots avs).Nodup) (h : gets env avs = some rvs) (e : g (rvs.map RV.fz) = some r) (k : K (.rv r) env) : callDen (funD g) avs env K E :=
  ⟨nd, rvs, h, r, e, by show K (AV.rv r) (puts env avs rvs); rw [puts_same h]; exact k⟩
theorem c_den {K : AV → En → Prop} (nd : (slots avs).Nodup) (h : gets env avs = some rvs) (k : dn rvs (fun r rvs' => K (.rv r) (puts env avs rvs')) (fun x rvs' => E x (puts env avs rvs'))) : callDen dn avs env K E := ⟨nd, rvs, h, k⟩
theorem puts_rv : ∀ {avs : List AV} {rvs : List RV} {env : En}, slots avs = [] → puts env avs rvs = env
  | [], rvs, env, _ => by cases rvs <;> rfl
  | .rv _ :: r, [], env, _ => rfl
  | .rv _ :: r, x :: rvs, env, h => puts_rv (avs := r) h
  | .slot _ :: r, _, env, h => by cases h
/-- a call of a method that changes its receiver, a local -/
theorem c_mut {K : AV → En → Prop} {f : RV → List D → Option (D × RV)} {d : D} {r1 : RV} (h : env[i]? = some (some r)) (o : r.own = true) (hs : slots avs = []) (h2 : gets env avs = some rest) (e : f r (rest.map RV.fz) = some (d, r1)) (k : K (.rv (.d d)) (env.set i (some r1))) : callDen (mutD f) (.slot i :: avs) env K E := by
  refine ⟨?_, r :: rest, ?_, r, rest, d, r1, rfl, o, e, ?_⟩
  · show (i :: slots avs).Nodup
    rw [hs]; simp
  · show (match (env[i]?).join with | some x => (gets env avs).map (x :: ·) | none => none) = _
    rw [h, h2]; rfl
  · show K _ (puts (env.set i (some r1)) avs rest)
    rw [puts_rv hs]; exact k
/-- an argument as data -/
def AvD (env : En) (av : AV) (d : D) : Prop := ∃ r, av.get env = some r ∧ r.fz = d
theorem avd_d : AvD env (.rv (.d x)) x := ⟨_, rfl, rfl⟩
theorem avd_l {xs : List D} : AvD env (.rv (.olst xs)) (.lst xs) := ⟨_, rfl, rfl⟩
theorem avd_dic {xs : List (Key × D)} : AvD env (.rv (.odic xs)) (.dic xs) := ⟨_, rfl, rfl⟩
theorem avd_ins {c : Str} {xs : List (Str × D)} : AvD env (.rv (.oins c xs)) (.ins c xs) := ⟨_, rfl, rfl⟩
theorem avd_sl {xs : List D} (h : env[i]? = some (some (.olst xs))) : AvD env (.slot i) (.lst xs) := ⟨_, by show (env[i]?).join = _; rw [h]; rfl, rfl⟩
theorem avd_sdic {xs : List (Key × D)} (h : env[i]? = some (some (.odic xs))) : AvD env (.slot i) (.dic xs) := ⟨_, by show (env[i]?).join = _; rw [h]; rfl, rfl⟩
theorem avd_sins {c : Str} {xs : List (Str × D)} (h : env[i]? = some (some (.oins c xs))) : AvD env (.slot i) (.ins c xs) := ⟨_, by show (env[i]?).join = _; rw [h]; rfl, rfl⟩
theorem c_1 {K : AV → En → Prop} {av : AV} {d : D} (h1 : AvD env av d) (e : g [d] = some r) (k : K (.rv r) env) : callDen (funD g) [av] env K E := by
  obtain ⟨r1, g1, rfl⟩ := h1
  refine c_fun ?_ (rvs := [r1]) ?_ e k
  · cases av <;> simp [slots]
  · show (match av.get env with | some x => (gets env []).map (x :: ·) | none => none) = _
    rw [g1]; rfl
theorem c_2 {K : AV → En → Prop} {av bv : AV} {d d' : D} (nd : (slots [av, bv]).Nodup) (h1 : AvD env av d) (h2 : AvD env bv d') (e : g [d, d'] = some r) (k : K (.rv r) env) : callDen (funD g) [av, bv] env K E := by
  obtain ⟨r1, g1, rfl⟩ := h1
  obtain ⟨r2, g2, rfl⟩ := h2
  refine c_fun nd (rvs := [r1, r2]) ?_ e k
  show (match av.get env with | some x => (match bv.get env with | some y => (gets env []).map (y :: ·) | none => none).map (x :: ·) | none => none) = _
  rw [g1, g2]; rfl
theorem c_3 {K : AV → En → Prop} {av bv cv : AV} {d d' d2 : D} (nd : (slots [av, bv, cv]).Nodup) (h1 : AvD env av d) (h2 : AvD env bv d') (h3 : AvD env cv d2) (e : g [d, d', d2] = some r) (k : K (.rv r) env) : callDen (funD g) [av, bv, cv] env K E := by
  obtain ⟨r1, g1, rfl⟩ := h1
  obtain ⟨r2, g2, rfl⟩ := h2
  obtain ⟨r3, g3, rfl⟩ := h3
  refine c_fun nd (rvs := [r1, r2, r3]) ?_ e k
  show (match av.get env with | some x => (match bv.get env with | some y => (match cv.get env with | some z => (gets env []).map (z :: ·) | none => none).map (y :: ·) | none => none).map (x :: ·) | none => none) = _
  rw [g1, g2, g3]; rfl
theorem nd_rr {r1 r2 : RV} : (slots [.rv r1, .rv r2]).Nodup := List.nodup_nil
theorem nd_sr {r2 : RV} : (slots [.slot i, .rv r2]).Nodup := by simp [slots]
theorem nd_rs {r2 : RV} : (slots [.rv r2, .slot i]).Nodup := by simp [slots]
theorem nd_ss (h : i ≠ j) : (slots [.slot i, .slot j]).Nodup := by simp [slots, h]
theorem c_app {K : AV → En → Prop} {xs : List D} (h : env[i]? = some (some (.olst xs))) (hz : xs.length < sizeLine) (k : K (.rv (.d .non)) (env.set i (some (.olst (xs ++ [x]))))) : callDen dAppend [.slot i, .rv (.d x)] env K E :=
  ⟨nd_sr, [.olst xs, .d x], by show (match (env[i]?).join with | some x => (gets env _).map (x :: ·) | none => none) = _; rw [h]; rfl, xs, x, rfl, hz, k⟩
theorem c_rev {K : AV → En → Prop} {xs : List D} (h : env[i]? = some (some (.olst xs))) (k : K (.rv (.d .non)) (env.set i (some (.olst xs.reverse)))) : callDen dReverse [.slot i] env K E :=
  ⟨by simp [slots], [.olst xs], by show (match (env[i]?).join with | some x => (gets env _).map (x :: ·) | none => none) = _; rw [h]; rfl, xs, rfl, k⟩
theorem c_pop {K : AV → En → Prop} {xs : List D} {y : D} {n : Nat} (h : env[i]? = some (some (.olst xs))) (hz : xs.length ≤ sizeLine) (hy : xs[n]? = some y) (k : K (.rv (.d y)) (env.set i (some (.olst (xs.eraseIdx n))))) : callDen dPopAt [.slot i, .rv (.d (.int n))] env K E := by
  have hn : n < xs.length := (List.getElem?_eq_some_iff.mp hy).1
  have hs : sizeLine < 2 ^ 63 := by rw [sizeLine_eq]; decide
  refine ⟨nd_sr, [.olst xs, .d (.int n)], by show (match (env[i]?).join with | some x => (gets env _).map (x :: ·) | none => none) = _; rw [h]; rfl, xs, n, n, y, rfl, by omega, by omega, ?_, hy, k⟩
  unfold seqIndex?
  simp
  omega
/-! sources -/
theorem r_val {K : List D → En → Prop} (h : (den2 E e).v env fun av env1 => frz av env1 fun d env2 => ∃ xs, walkOf d = some xs ∧ K xs env2) : denSrc E (.val e) env K := h
theorem r_rng1 {K : List D → En → Prop} (h : (den2 E e).v env fun av env1 => frz av env1 fun d env2 => ∃ j : Int, d = .int j ∧ (-(2 ^ 62) ≤ j ∧ j < 2 ^ 62) ∧ K (rangeD 0 j) env2) : denSrc E (.rng1 e) env K := h
theorem r_rng2 {K : List D → En → Prop} (h : (den2 E a).v env fun av env1 => frz av env1 fun d env2 => (den2 E b).v env2 fun av2 env3 => frz av2 env3 fun d' env3 => ∃ i j : Int, d = .int i ∧ d' = .int j ∧ (-(2 ^ 62) ≤ i ∧ i < 2 ^ 62 ∧ -(2 ^ 62) ≤ j ∧ j < 2 ^ 62) ∧ K (rangeD i j) env3) : denSrc E (.rng2 a b) env K := h
theorem r_enm {K : List D → En → Prop} (h : (den2 E e).v env fun av env1 => frz av env1 fun d env2 => ∃ xs, d = .lst xs ∧ K (enumD xs) env2) : denSrc E (.enm e) env K := h
theorem r_items {K : List D → En → Prop} (h : (den2 E e).v env fun av env1 => frz av env1 fun d env2 => ∃ kvs, d = .dic kvs ∧ K (kvs.map fun p => .tup [keyD p.1, p.2]) env2) : denSrc E (.items e) env K := h
theorem r_slot {K : List D → En → Prop} {xs : List D} (h : env[i]? = some (some (.olst xs))) (k : K xs env) : denSrc E (.slot i) env K := ⟨xs, h, k⟩
end
/-! statements -/
section
variable {E : XE} {bor : Nat → Bool} {env env' : En} {i j : Nat} {r : RV} {e : SE} {es : SEs} {D : DE} {ss : SSs} {s : SS}
theorem s_nil (k : D.nx env) : denSs E bor .nil env D := k
theorem s_cons (h : denS E bor s env { nx := fun e => denSs E bor ss e D, rt := D.rt, bk := D.bk, ct := D.ct }) : denSs E bor (.cons s ss) env D := h
theorem s_expr (h : (den2 E e).v env fun _ env1 => D.nx env1) : denS E bor (.expr e) env D := h
theorem s_asg (h : (den2 E e).v env fun av env1 => take av env1 fun r env2 => bor i = false ∧ D.nx (env2.set i (some r))) : denS E bor (.assign i e) env D := h
theorem s_asgT {l : List Nat} (h : (den2 E e).v env fun av env1 => frz av env1 fun d env2 => ∃ xs, d = .tup xs ∧ xs.length = l.length ∧ l.all (fun i => !bor i) = true ∧ D.nx (setAll env2 l xs)) : denS E bor (.assignT l e) env D := h
theorem s_par {sw : Bool} {l : List Nat} (h : denDs E es env fun ds env1 => ds.length = l.length ∧ l.all (fun i => !bor i) = true ∧ D.nx (setAll env1 l ds)) : denS E bor (.par sw l es) env D := h
theorem s_parO {sw : Bool} {l : List Nat} (h : denA E es env fun avs env1 => ∃ rs, avs = rs.map AV.rv ∧ rs.length = l.length ∧ l.all (fun i => !bor i) = true ∧ D.nx (setAllR env1 l rs)) : denS E bor (.parO sw l es) env D := h
theorem s_attr {c f : Str} (h : (den2 E e).v env fun av env1 => frz av env1 fun d env2 => ∃ fs, env2[i]? = some (some (.oins c fs)) ∧ fs.length < 900 ∧ D.nx (env2.set i (some (.oins c (putFd f d fs))))) : denS E bor (.setattr c i f e) env D := h
theorem s_sub {ix : SE} (h : (den2 E e).v env fun av env1 => frz av env1 fun d env2 => (∃ c0, env2[i]? = some (some c0)) ∧ kept (den2 E ix).v env2 fun j env4 => ∃ c c', env4[i]? = some (some c) ∧ setsubD c j d = some c' ∧ D.nx (env4.set i (some c'))) : denS E bor (.setsub i ix e) env D := h
theorem s_aug {op : Operator} {dn : Den} {x : Mp.D} (hx : env[i]? = some (some (.d x))) (h : (den2 E e).v env fun av env1 => frz av env1 fun d env2 => env2[i]? = some (some (.d x)) ∧ bor i = false ∧ callDen dn [.rv (.d x), .rv (.d d)] env2 (fun r env3 => ∃ z, r = .rv (.d z) ∧ D.nx (env3.set i (some (.d z)))) E) : denS E bor (.aug i op dn e) env D := ⟨x, hx, h⟩
theorem s_ret (h : (den2 E e).v env fun av env1 => give bor av env1 D.rt) : denS E bor (.ret e) env D := h
theorem s_retN (h : D.rt (.d .non) env) : denS E bor .retN env D := h
theorem s_if {a b : SSs} (h : (den2 E e).t env fun c env1 => if c = true then denSs E bor a env1 D else denSs E bor b env1 D) : denS E bor (.ifs e a b) env D := h
theorem s_for {tg : Tg} {src : Src} {body : SSs} (h : denSrc E src env fun xs env1 => tg.slots.all (fun i => !bor i) = true ∧ forLoop (fun x e D' => ∃ e1, bindT tg x e = some e1 ∧ denSs E bor body e1 D') D xs env1) : denS E bor (.for_ tg src body) env D := h
theorem s_pass (h : D.nx env) : denS E bor .pass env D := h
theorem s_brk (h : D.bk env) : denS E bor .brk env D := h
theorem s_cont (h : D.ct env) : denS E bor .cont env D := h
theorem k_take {K : RV → En → Prop} (k : K r env) : take (.rv r) env K := k
theorem k_takeS {K : RV → En → Prop} (h : env[i]? = some (some r)) (k : K (.d r.fz) (env.set i (some (.d r.fz)))) : take (.slot i) env K := ⟨r, h, k⟩
theorem k_give {K : RV → En → Prop} (k : K r env) : give bor (.rv r) env K := k
theorem k_giveS {K : RV → En → Prop} (h : env[i]? = some (some r)) (hb : bor i = false) (k : K r (env.set i none)) : give bor (.slot i) env K := ⟨r, h, by rw [if_pos hb]; exact k⟩
theorem p_1 {a : RV} {env : En} {l : List Nat} {N : List RV → Prop} (hl : l.length = 1) (hb : l.all (fun i => !bor i) = true) (k : N [a]) : ∃ rs, [AV.rv a] = rs.map AV.rv ∧ rs.length = l.length ∧ l.all (fun i => !bor i) = true ∧ N rs := ⟨[a], rfl, hl.symm, hb, k⟩
theorem p_2 {a b : RV} {l : List Nat} {N : List RV → Prop} (hl : l.length = 2) (hb : l.all (fun i => !bor i) = true) (k : N [a, b]) : ∃ rs, [AV.rv a, AV.rv b] = rs.map AV.rv ∧ rs.length = l.length ∧ l.all (fun i => !bor i) = true ∧ N rs := ⟨[a, b], rfl, hl.symm, hb, k⟩
theorem p_3 {a b c : RV} {l : List Nat} {N : List RV → Prop} (hl : l.length = 3) (hb : l.all (fun i => !bor i) = true) (k : N [a, b, c]) : ∃ rs, [AV.rv a, AV.rv b, AV.rv c] = rs.map AV.rv ∧ rs.length = l.length ∧ l.all (fun i => !bor i) = true ∧ N rs := ⟨[a, b, c], rfl, hl.symm, hb, k⟩
theorem p_4 {a b c d : RV} {l : List Nat} {N : List RV → Prop} (hl : l.length = 4) (hb : l.all (fun i => !bor i) = true) (k : N [a, b, c, d]) : ∃ rs, [AV.rv a, AV.rv b, AV.rv c, AV.rv d] = rs.map AV.rv ∧ rs.length = l.length ∧ l.all (fun i => !bor i) = true ∧ N rs := ⟨[a, b, c, d], rfl, hl.symm, hb, k⟩
end
end Mp
namespace Mp
open PySem PySem.Spec PyProof.Rows L2
/-! ### what the operations give -/
noncomputable instance decD : DecidableEq D := fun a b => Classical.propDecidable (a = b)
theorem gMod_ok {i j : Int} (h : 0 < j) : gMod [.int i, .int j] = some (.d (.int (i % j))) := if_pos (decide_eq_true h)
theorem gFdiv_ok {i j : Int} (h : 0 < j) (h2 : j < 1073741824) : gFdiv [.int i, .int j] = some (.d (.int (i / j))) := if_pos (decide_eq_true ⟨h, h2⟩)
theorem gPow_ok {i j : Int} (h : 0 ≤ j) (h1 : j ≤ 1000000) (h2 : i.natAbs < 2 ^ 64) : gPow [.int i, .int j] = some (.d (.int (i ^ j.toNat))) := if_pos (decide_eq_true ⟨h, h1, h2⟩)
theorem gMul_l {i j : Int} (h : -(2 ^ 64) < i) (h2 : i < 2 ^ 64) : gMul [.int i, .int j] = some (.d (.int (i * j))) := if_pos (Bool.or_eq_true_iff.mpr (.inl (decide_eq_true ⟨h, h2⟩)))
theorem gMul_r {i j : Int} (h : -(2 ^ 64) < j) (h2 : j < 2 ^ 64) : gMul [.int i, .int j] = some (.d (.int (i * j))) := if_pos (Bool.or_eq_true_iff.mpr (.inr (decide_eq_true ⟨h, h2⟩)))
theorem gSub_ok {i j : Int} : gSub2 [.int i, .int j] = some (.d (.int (i - j))) := rfl
theorem gAdd_i {i j : Int} : gAdd [.int i, .int j] = some (.d (.int (i + j))) := rfl
theorem gAdd_s {i j : Str} (h : i.length + j.length ≤ sizeLine) : gAdd [.str i, .str j] = some (.d (.str (i ++ j))) := if_pos h
theorem gAdd_l {i j : List D} (h : i.length + j.length ≤ sizeLine) : gAdd [.lst i, .lst j] = some (.olst (i ++ j)) := if_pos h
theorem gLt_ok {i j : Int} : gLt [.int i, .int j] = some (.d (.bl (decide (i < j)))) := rfl
theorem gLe_ok {i j : Int} : gLe [.int i, .int j] = some (.d (.bl (decide (i ≤ j)))) := rfl
theorem gGt_ok {i j : Int} : gGt [.int i, .int j] = some (.d (.bl (decide (j < i)))) := rfl
theorem gGe_ok {i j : Int} : gGe [.int i, .int j] = some (.d (.bl (decide (j ≤ i)))) := rfl
theorem gNeg_ok {i : Int} : gNeg [.int i] = some (.d (.int (-i))) := rfl
theorem gIsN_n : gIsN [.non, .non] = some (.d (.bl true)) := rfl
theorem gIsN_i {i : Int} : gIsN [.int i, .non] = some (.d (.bl false)) := rfl
theorem gIsN_s {i : Str} : gIsN [.str i, .non] = some (.d (.bl false)) := rfl
theorem gIsN_b {i : Bool} : gIsN [.bl i, .non] = some (.d (.bl false)) := rfl
theorem gIsN_t {i : List D} : gIsN [.tup i, .non] = some (.d (.bl false)) := rfl
theorem gIsN_l {i : List D} : gIsN [.lst i, .non] = some (.d (.bl false)) := rfl
theorem gIsN_x {c : Str} {i : List (Str × D)} : gIsN [.ins c i, .non] = some (.d (.bl false)) := rfl
theorem gNotN_n : gNotN [.non, .non] = some (.d (.bl false)) := rfl
theorem gNotN_i {i : Int} : gNotN [.int i, .non] = some (.d (.bl true)) := rfl
theorem gNotN_s {i : Str} : gNotN [.str i, .non] = some (.d (.bl true)) := rfl
theorem gNotN_t {i : List D} : gNotN [.tup i, .non] = some (.d (.bl true)) := rfl
theorem gNotN_l {i : List D} : gNotN [.lst i, .non] = some (.d (.bl true)) := rfl
theorem gNotN_x {c : Str} {i : List (Str × D)} : gNotN [.ins c i, .non] = some (.d (.bl true)) := rfl
def isN : D → Bool
  | .non => true
  | _ => false
theorem gIsN_ok {a : D} : gIsN [a, .non] = some (.d (.bl (isN a))) := by cases a <;> rfl
theorem gNotN_ok {a : D} : gNotN [a, .non] = some (.d (.bl (!isN a))) := by cases a <;> rfl
theorem gLen_l {xs : List D} : gLen [.lst xs] = some (.d (.int xs.length)) := rfl
theorem gLen_t {xs : List D} : gLen [.tup xs] = some (.d (.int xs.length)) := rfl
theorem gLen_r {xs : List D} : gLen [.scr xs] = some (.d (.int xs.length)) := rfl
theorem gLen_s {z : Str} (h : z.length ≤ sizeLine) : gLen [.str z] = some (.d (.int z.length)) := if_pos h
theorem gInt_i {i : Int} : gInt [.int i] = some (.d (.int i)) := rfl
theorem gInt_b {b : Bool} : gInt [.bl b] = some (.d (.int (if b = true then 1 else 0))) := rfl
theorem gStr_s {i : Str} : gStr [.str i] = some (.d (.str i)) := rfl
theorem gAbs_i {i : Int} : gAbs [.int i] = some (.d (.int (if i < 0 then -i else i))) := rfl
theorem gMax_i {i j : Int} : gMax [.int i, .int j] = some (.d (.int (if j > i then j else i))) := rfl
theorem gMin_i {i j : Int} : gMin [.int i, .int j] = some (.d (.int (if j < i then j else i))) := rfl
theorem gList_l {i : List D} : gList [.lst i] = some (.olst i) := rfl
theorem gList_t {i : List D} : gList [.tup i] = some (.olst i) := rfl
theorem gTuple_l {i : List D} : gTuple [.lst i] = some (.d (.tup i)) := rfl
theorem gTuple_t {i : List D} : gTuple [.tup i] = some (.d (.tup i)) := rfl
theorem bools_map (bs : List Bool) : bools (bs.map D.bl) = some bs := by
  induction bs with
  | nil => rfl
  | cons b bs ih =>
    show (bools (bs.map D.bl)).map (b :: ·) = _
    rw [ih]; rfl
theorem gAny_ok {bs : List Bool} : gAny [.lst (bs.map D.bl)] = some (.d (.bl (bs.any id))) := by
  show (bools (bs.map D.bl)).map _ = _
  rw [bools_map]; rfl
theorem gAll_ok {bs : List Bool} : gAll [.lst (bs.map D.bl)] = some (.d (.bl (bs.all id))) := by
  show (bools (bs.map D.bl)).map _ = _
  rw [bools_map]; rfl
theorem atI_nat {α : Type} {xs : List α} {i : Nat} {x : α} (h : xs[i]? = some x) : atI xs (i : Int) = some x := by
  have hl : i < xs.length := (List.getElem?_eq_some_iff.mp h).1
  have e : ixN xs.length (i : Int) = some i := by
    unfold ixN
    split <;> (try split) <;> first | omega | (simp; done) | (simp; omega)
  unfold atI
  rw [e]; exact h
theorem atI_int {α : Type} {xs : List α} {i : Int} {x : α} (h0 : 0 ≤ i) (h : xs[i.toNat]? = some x) : atI xs i = some x := by
  have := atI_nat h
  rwa [Int.toNat_of_nonneg h0] at this
theorem atI_last {α : Type} {xs : List α} {x : α} (h : xs[xs.length - 1]? = some x) : atI xs (-1) = some x := by
  have hl : xs.length - 1 < xs.length := (List.getElem?_eq_some_iff.mp h).1
  have e : ixN xs.length (-1) = some (xs.length - 1) := by
    unfold ixN
    split <;> (try split) <;> first | omega | (simp; done) | (simp; omega)
  unfold atI
  rw [e]; exact h
theorem gIx_l {xs : List D} {i : Int} {x : D} (h : atI xs i = some x) : gIxA [.lst xs, .int i] = some (.d x) := by
  show (atI xs i).map RV.d = _
  rw [h]; rfl
theorem gIx_t {xs : List D} {i : Int} {x : D} (h : atI xs i = some x) : gIxA [.tup xs, .int i] = some (.d x) := by
  show (atI xs i).map RV.d = _
  rw [h]; rfl
theorem gIx_r {xs : List D} {i : Int} {x : D} (h : atI xs i = some x) : gIxA [.scr xs, .int i] = some (.d x) := by
  show (atI xs i).map RV.d = _
  rw [h]; rfl
theorem gIx_ls {xs : List D} {n : Nat} {x : D} (h : xs[n]? = some x) : gIxA [.lst xs, .int (n : Int)] = some (.d x) := gIx_l (atI_nat h)
theorem gIx_s {z : Str} {n : Nat} {k : Nat} (hz : z.length ≤ sizeLine) (h : z.cps.toList[n]? = some k) : gIxA [.str z, .int (n : Int)] = some (.d (.str ⟨#[k]⟩)) := by
  show (if z.length ≤ sizeLine then (atI z.cps.toList (n : Int)).map fun k => RV.d (.str ⟨#[k]⟩) else none) = _
  rw [if_pos hz, atI_nat h]; rfl
theorem gIx_d {kvs : List (Key × D)} {k x : D} {ky : Key} (hk : keyOf k = some ky) (h : getD kvs ky = some x) : gIxA [.dic kvs, k] = some (.d x) := by
  show (keyOf k).bind (fun ky => (getD kvs ky).map RV.d) = _
  rw [hk]; show (getD kvs ky).map RV.d = _
  rw [h]; rfl
theorem gGet_ok {kvs : List (Key × D)} {k : D} {ky : Key} (hk : keyOf k = some ky) : gGet1 [.dic kvs, k] = some (.d ((getD kvs ky).getD .non)) := by
  show (keyOf k).map _ = _
  rw [hk]; rfl
theorem gGet2_ok {kvs : List (Key × D)} {k d : D} {ky : Key} (hk : keyOf k = some ky) : gGet2 [.dic kvs, k, d] = some (.d ((getD kvs ky).getD d)) := by
  show (keyOf k).map _ = _
  rw [hk]; rfl
theorem gInD_ok {kvs : List (Key × D)} {k : D} {ky : Key} (hk : keyOf k = some ky) : gIn [k, .dic kvs] = some (.d (.bl (getD kvs ky).isSome)) := by
  show ((keyOf k).map _).map _ = _
  rw [hk]; rfl
theorem gNinD_ok {kvs : List (Key × D)} {k : D} {ky : Key} (hk : keyOf k = some ky) : gNin [k, .dic kvs] = some (.d (.bl (!(getD kvs ky).isSome))) := by
  show ((keyOf k).map _).map _ = _
  rw [hk]; rfl
theorem gAttr_ok {cs : List Str} {f cn : Str} {fs : List (Str × D)} {x : D} (hc : cn ∈ cs) (h : fs.lookup f = some x) : gAttr cs f [.ins cn fs] = some (.d x) := by
  show (if cn ∈ cs then (fs.lookup f).map RV.d else none) = _
  rw [if_pos hc, h]; rfl
/-! ### equal data -/
/-- data without truth values, at most n deep -/
def nb : Nat → D → Bool
  | _, .non => true
  | _, .int _ => true
  | _, .str _ => true
  | n + 1, .lst xs => xs.all (nb n)
  | n + 1, .tup xs => xs.all (nb n)
  | _, _ => false
theorem pairs_nb {f : D → D → Option Bool} : ∀ {xs ys : List D}, (∀ x ∈ xs, ∀ y ∈ ys, f x y = some (decide (x = y))) → xs.length = ys.length → pairs f xs ys = some (decide (xs = ys))
  | [], [], _, _ => by simp [pairs]
  | x :: xs, y :: ys, h, hl => by
    have h1 := h x List.mem_cons_self y List.mem_cons_self
    have h2 := pairs_nb (xs := xs) (ys := ys) (fun a ha b hb => h a (List.mem_cons_of_mem _ ha) b (List.mem_cons_of_mem _ hb)) (by simpa using hl)
    unfold pairs
    rw [h1, h2]
    simp [Bool.decide_and]
  | [], _ :: _, _, hl => by simp at hl
  | _ :: _, [], _, hl => by simp at hl
theorem pairs_some {f : D → D → Option Bool} : ∀ {xs ys : List D}, (∀ x ∈ xs, ∀ y ∈ ys, ∃ b, f x y = some b) → ∃ b, pairs f xs ys = some b
  | [], _, _ => ⟨true, by cases ‹List D› <;> rfl⟩
  | x :: xs, [], _ => ⟨true, rfl⟩
  | x :: xs, y :: ys, h => by
    obtain ⟨b, hb⟩ := h x List.mem_cons_self y List.mem_cons_self
    obtain ⟨b2, hb2⟩ := pairs_some (xs := xs) (ys := ys) fun a ha b hb => h a (List.mem_cons_of_mem _ ha) b (List.mem_cons_of_mem _ hb)
    exact ⟨b && b2, by unfold pairs; rw [hb, hb2]; rfl⟩
theorem nb_lst {n : Nat} {xs : List D} (h : nb n (.lst xs) = true) : ∃ m, n = m + 1 ∧ ∀ x ∈ xs, nb m x = true := by
  cases n with
  | zero => simp [nb] at h
  | succ n => exact ⟨n, rfl, by simpa [nb] using h⟩
theorem nb_tup {n : Nat} {xs : List D} (h : nb n (.tup xs) = true) : ∃ m, n = m + 1 ∧ ∀ x ∈ xs, nb m x = true := by
  cases n with
  | zero => simp [nb] at h
  | succ n => exact ⟨n, rfl, by simpa [nb] using h⟩
theorem nb_view {n : Nat} {d : D} (h : nb n d = true) : d = .non ∨ (∃ i, d = .int i) ∨ (∃ s, d = .str s) ∨ (∃ xs, d = .lst xs) ∨ ∃ xs, d = .tup xs := by
  cases d with
  | non => exact .inl rfl
  | int i => exact .inr (.inl ⟨i, rfl⟩)
  | str s => exact .inr (.inr (.inl ⟨s, rfl⟩))
  | lst xs => exact .inr (.inr (.inr (.inl ⟨xs, rfl⟩)))
  | tup xs => exact .inr (.inr (.inr (.inr ⟨xs, rfl⟩)))
  | _ => cases n <;> simp [nb] at h
theorem eqN_nb : ∀ (k n m : Nat) (a b : D), n < k → m < k → nb n a = true → nb m b = true → eqN k a b = some (decide (a = b))
  | 0, n, m, a, b, h, _, _, _ => by omega
  | k + 1, n, m, a, b, hn, hm, ha, hb => by
    have sc : ∀ (x y : V) (p : Prop) [Decidable p], (eqV x y = true ↔ p) → some (eqV x y) = some (decide p) := fun x y p _ h => by
      by_cases hp : p
      · rw [h.mpr hp, decide_eq_true hp]
      · rw [decide_eq_false hp]
        cases e : eqV x y with
        | false => rfl
        | true => exact absurd (h.mp e) hp
    have ne : ∀ (p : Prop) [Decidable p], ¬ p → some false = some (decide p) := fun p _ h => by rw [decide_eq_false h]
    have seq : ∀ {xs ys : List D} {n m : Nat}, n < k → m < k → (∀ x ∈ xs, nb n x = true) → (∀ y ∈ ys, nb m y = true) → ∀ x ∈ xs, ∀ y ∈ ys, eqN k x y = some (decide (x = y)) := fun hn hm ha hb x hx y hy => eqN_nb k _ _ x y hn hm (ha x hx) (hb y hy)
    rcases nb_view ha with rfl | ⟨i, rfl⟩ | ⟨i, rfl⟩ | ⟨xs, rfl⟩ | ⟨xs, rfl⟩
    · rcases nb_view hb with rfl | ⟨j, rfl⟩ | ⟨j, rfl⟩ | ⟨ys, rfl⟩ | ⟨ys, rfl⟩
      · exact sc .non .non _ (by simp [eqV])
      · exact sc .non (.int j) _ (by simp [eqV])
      · exact sc .non (.str j) _ (by simp [eqV])
      · exact ne _ (by simp)
      · exact ne _ (by simp)
    · rcases nb_view hb with rfl | ⟨j, rfl⟩ | ⟨j, rfl⟩ | ⟨ys, rfl⟩ | ⟨ys, rfl⟩
      · exact sc (.int i) .non _ (by simp [eqV])
      · exact sc (.int i) (.int j) _ (by simp [eqV])
      · exact sc (.int i) (.str j) _ (by simp [eqV])
      · exact ne _ (by simp)
      · exact ne _ (by simp)
    · rcases nb_view hb with rfl | ⟨j, rfl⟩ | ⟨j, rfl⟩ | ⟨ys, rfl⟩ | ⟨ys, rfl⟩
      · exact sc (.str i) .non _ (by simp [eqV])
      · exact sc (.str i) (.int j) _ (by simp [eqV])
      · exact sc (.str i) (.str j) _ (by simp [eqV])
      · exact ne _ (by simp)
      · exact ne _ (by simp)
    · obtain ⟨n, rfl, ha'⟩ := nb_lst ha
      rcases nb_view hb with rfl | ⟨j, rfl⟩ | ⟨j, rfl⟩ | ⟨ys, rfl⟩ | ⟨ys, rfl⟩
      · exact ne _ (by simp)
      · exact ne _ (by simp)
      · exact ne _ (by simp)
      · obtain ⟨m, rfl, hb'⟩ := nb_lst hb
        have ih := seq (show n < k by omega) (show m < k by omega) ha' hb'
        show (if xs.length = ys.length then pairs (eqN k) xs ys else some false) = _
        by_cases hl : xs.length = ys.length
        · rw [if_pos hl, pairs_nb ih hl]; simp
        · rw [if_neg hl]; exact ne _ (by simp; intro e; exact hl (by rw [e]))
      · exact ne _ (by simp)
    · obtain ⟨n, rfl, ha'⟩ := nb_tup ha
      rcases nb_view hb with rfl | ⟨j, rfl⟩ | ⟨j, rfl⟩ | ⟨ys, rfl⟩ | ⟨ys, rfl⟩
      · exact ne _ (by simp)
      · exact ne _ (by simp)
      · exact ne _ (by simp)
      · exact ne _ (by simp)
      · obtain ⟨m, rfl, hb'⟩ := nb_tup hb
        have ih := seq (show n < k by omega) (show m < k by omega) ha' hb'
        show (pairs (eqN k) xs ys).map (· && xs.length == ys.length) = _
        by_cases hl : xs.length = ys.length
        · rw [pairs_nb ih hl, hl]; simp
        · obtain ⟨b, hb2⟩ := pairs_some fun x hx y hy => ⟨_, ih x hx y hy⟩
          have e : (xs.length == ys.length) = false := by simpa using hl
          rw [hb2, Option.map_some, e, Bool.and_false]
          exact ne _ (by simp; intro e; exact hl (by rw [e]))
theorem gEq_ii {i j : Int} : gEq [.int i, .int j] = some (.d (.bl (decide (i = j)))) := by simp [gEq, gEq2, toV, scal]
theorem gEq_ss {i j : Str} : gEq [.str i, .str j] = some (.d (.bl (decide (i = j)))) := by simp [gEq, gEq2, toV, scal]
theorem gEq_bb {i j : Bool} : gEq [.bl i, .bl j] = some (.d (.bl (decide (i = j)))) := by simp [gEq, gEq2, toV, scal]
theorem gEq_is {i : Int} {j : Str} : gEq [.int i, .str j] = some (.d (.bl false)) := by simp [gEq, gEq2, toV, scal]
theorem gEq_si {i : Int} {j : Str} : gEq [.str j, .int i] = some (.d (.bl false)) := by simp [gEq, gEq2, toV, scal]
theorem gEq_nn : gEq [.non, .non] = some (.d (.bl true)) := by simp [gEq, gEq2, toV, scal]
theorem gEq_ns {j : Str} : gEq [.non, .str j] = some (.d (.bl false)) := by simp [gEq, gEq2, toV, scal]
theorem gEq_sn {j : Str} : gEq [.str j, .non] = some (.d (.bl false)) := by simp [gEq, gEq2, toV, scal]
theorem gEq_ni {j : Int} : gEq [.non, .int j] = some (.d (.bl false)) := by simp [gEq, gEq2, toV, scal]
theorem gEq_in {j : Int} : gEq [.int j, .non] = some (.d (.bl false)) := by simp [gEq, gEq2, toV, scal]
theorem gNe_of {a b : D} {k : Bool} (h : gEq [a, b] = some (.d (.bl k))) : gNe [a, b] = some (.d (.bl (!k))) := by
  have h : (gEq2 a b).map (fun k => RV.d (.bl k)) = some (.d (.bl k)) := h
  obtain ⟨k', e, h⟩ := Option.map_eq_some_iff.mp h
  cases h
  show (gEq2 a b).map (fun k => RV.d (.bl !k)) = _
  rw [e]; rfl
/-- data that is no list, no tuple, no truth value -/
def scl : D → Bool
  | .non => true
  | .int _ => true
  | .str _ => true
  | _ => false
theorem gEq_scl {a b : D} (ha : scl a = true) (hb : scl b = true) : gEq [a, b] = some (.d (.bl (decide (a = b)))) := by
  have key : ∀ {x y : V}, toV a = some x → toV b = some y → scal x y = true → (x = y ↔ a = b) → gEq [a, b] = some (.d (.bl (decide (a = b)))) := fun {x y} h1 h2 h3 h4 => by
    show (gEq2 a b).map _ = _
    unfold gEq2
    rw [h1]; dsimp only; rw [h2]; dsimp only
    rw [if_pos h3]
    by_cases h : a = b
    · rw [decide_eq_true h, decide_eq_true (h4.mpr h)]; rfl
    · rw [decide_eq_false h, decide_eq_false (fun z => h (h4.mp z))]; rfl
  have v : ∀ {d : D}, scl d = true → d = .non ∨ (∃ i, d = .int i) ∨ ∃ s, d = .str s := fun {d} h => by
    cases d with
    | non => exact .inl rfl
    | int i => exact .inr (.inl ⟨i, rfl⟩)
    | str s => exact .inr (.inr ⟨s, rfl⟩)
    | _ => cases h
  rcases v ha with rfl | ⟨i, rfl⟩ | ⟨i, rfl⟩ <;> rcases v hb with rfl | ⟨j, rfl⟩ | ⟨j, rfl⟩ <;> exact key rfl rfl rfl (by simp)
theorem gNe_scl {a b : D} (ha : scl a = true) (hb : scl b = true) : gNe [a, b] = some (.d (.bl (!decide (a = b)))) := gNe_of (gEq_scl ha hb)
theorem gEq_seq {a b : D} (ha : isSeq a = true) (hb : isSeq b = true) (na : nb 58 a = true) (nb' : nb 58 b = true) : gEq [a, b] = some (.d (.bl (decide (a = b)))) := by
  have h := eqN_nb 60 58 58 a b (by omega) (by omega) na nb'
  have t1 : toV a = none := by cases a <;> first | rfl | cases ha
  have t2 : toV b = none := by cases b <;> first | rfl | cases hb
  show (gEq2 a b).map _ = _
  unfold gEq2
  rw [t1]
  dsimp only
  rw [t2]
  dsimp only
  rw [h]; rfl
theorem gNe_seq {a b : D} (ha : isSeq a = true) (hb : isSeq b = true) (na : nb 58 a = true) (nb' : nb 58 b = true) : gNe [a, b] = some (.d (.bl (!decide (a = b)))) := gNe_of (gEq_seq ha hb na nb')
mutual
theorem nb_pure : ∀ (n : Nat) (d : D), nb n d = true → pureD d = true
  | _, .non, _ => rfl
  | _, .int _, _ => rfl
  | _, .str _, _ => rfl
  | 0, .lst _, h => by simp [nb] at h
  | 0, .tup _, h => by simp [nb] at h
  | n + 1, .lst xs, h => by unfold pureD; exact nb_pures n xs (by simpa only [nb] using h)
  | n + 1, .tup xs, h => by unfold pureD; exact nb_pures n xs (by simpa only [nb] using h)
  | _, .bl _, h => by simp [nb] at h
  | _, .ty _, h => by simp [nb] at h
  | _, .glo _, h => by simp [nb] at h
  | _, .dic _, h => by simp [nb] at h
  | _, .ins _ _, h => by simp [nb] at h
  | _, .scr _, h => by simp [nb] at h
theorem nb_pures : ∀ (n : Nat) (xs : List D), xs.all (nb n) = true → pureDs xs = true
  | _, [], _ => rfl
  | n, x :: xs, h => by
    simp only [List.all_cons, Bool.and_eq_true] at h
    unfold pureDs
    rw [nb_pure n x h.1, nb_pures n xs h.2]; rfl
end
theorem inN_nb {a : D} (ha : nb 58 a = true) : ∀ {ys : List D}, (∀ y ∈ ys, nb 58 y = true) → inN a ys = some (decide (a ∈ ys))
  | [], _ => by simp [inN]
  | y :: ys, h => by
    have h1 := h y List.mem_cons_self
    unfold inN
    rw [if_pos (nb_pure _ _ h1), eqN_nb 60 58 58 y a (by omega) (by omega) h1 ha, inN_nb ha fun z hz => h z (List.mem_cons_of_mem _ hz)]
    simp [Bool.decide_or, eq_comm]
theorem gIn_l {a : D} {ys : List D} (ha : nb 58 a = true) (h : ∀ y ∈ ys, nb 58 y = true) : gIn [a, .lst ys] = some (.d (.bl (decide (a ∈ ys)))) := by
  show (inN a ys).map _ = _
  rw [inN_nb ha h]; rfl
theorem gIn_t {a : D} {ys : List D} (ha : nb 58 a = true) (h : ∀ y ∈ ys, nb 58 y = true) : gIn [a, .tup ys] = some (.d (.bl (decide (a ∈ ys)))) := by
  show (inN a ys).map _ = _
  rw [inN_nb ha h]; rfl
theorem gNin_l {a : D} {ys : List D} (ha : nb 58 a = true) (h : ∀ y ∈ ys, nb 58 y = true) : gNin [a, .lst ys] = some (.d (.bl (!decide (a ∈ ys)))) := by
  show (inN a ys).map _ = _
  rw [inN_nb ha h]; rfl
theorem gNin_t {a : D} {ys : List D} (ha : nb 58 a = true) (h : ∀ y ∈ ys, nb 58 y = true) : gNin [a, .tup ys] = some (.d (.bl (!decide (a ∈ ys)))) := by
  show (inN a ys).map _ = _
  rw [inN_nb ha h]; rfl
theorem gNin_of {a b : D} {k : Bool} (h : gIn [a, b] = some (.d (.bl k))) : gNin [a, b] = some (.d (.bl (!k))) := by
  obtain ⟨k', e, h⟩ := Option.map_eq_some_iff.mp (show (gIn2 a b).map (fun k => RV.d (.bl k)) = some (.d (.bl k)) from h)
  cases h
  show (gIn2 a b).map (fun k => RV.d (.bl !k)) = _
  rw [e]; rfl
theorem strsD_map (ss : List Str) : strsD (ss.map D.str) = some ss := by
  induction ss with
  | nil => rfl
  | cons s ss ih =>
    show (strsD (ss.map D.str)).map (s :: ·) = _
    rw [ih]; rfl
theorem gJoin_ok {a : Str} {ss : List Str} (h : (ss.map (·.length)).sum + ss.length * a.length ≤ 16777216) : gJoin [.str a, .lst (ss.map D.str)] = some (.d (.str (Txt.join a ss))) := by
  unfold gJoin
  simp only [strsD_map]
  rw [if_pos h]
/-! ### ifs, loops -/
theorem ite_dec {p : Prop} [Decidable p] {A B : Prop} (h1 : p → A) (h2 : ¬ p → B) : if decide p = true then A else B := by
  by_cases h : p
  · rw [if_pos (decide_eq_true h)]; exact h1 h
  · rw [if_neg (fun z => h (of_decide_eq_true z))]; exact h2 h
theorem ite_bl {b : Bool} {A B : Prop} (h1 : b = true → A) (h2 : b = false → B) : if b = true then A else B := by
  cases b
  · exact h2 rfl
  · exact h1 rfl
theorem ite_t {A B : Prop} (h : A) : if true = true then A else B := h
theorem ite_f {A B : Prop} (h : B) : if false = true then A else B := h
theorem ite_tt {A B : Prop} (h : A) : if (true : Bool) = (true : Bool) then A else B := h
theorem for_inv {body : D → En → DE → Prop} {D0 : DE} (I : Nat → En → Prop) : ∀ {xs : List D} {env : En} (n : Nat), I n env →
    (∀ (k : Nat) (x : D) (env : En) (N : En → Prop), xs[k]? = some x → I (n + k) env → (∀ e, I (n + k + 1) e → N e) → body x env { nx := N, rt := D0.rt, bk := D0.nx, ct := N }) →
    (∀ env, I (n + xs.length) env → D0.nx env) → forLoop body D0 xs env
  | [], env, n, h0, _, hd => hd env h0
  | x :: xs, env, n, h0, hs, hd => by
    refine hs 0 x env _ rfl h0 fun e he => ?_
    refine for_inv I (n + 1) he (fun k y e' N hy hi hn => ?_) fun e' h' => hd e' (by rw [List.length_cons, ← Nat.add_assoc, Nat.add_right_comm]; exact h')
    have e1 : n + 1 + k = n + (k + 1) := by omega
    rw [e1] at hi
    exact hs (k + 1) y e' N hy hi fun e he => hn e (by rw [e1]; exact he)
/-- a comprehension by an invariant of the items so far -/
theorem lc_inv {body : D → En → (Option D → En → Prop) → Prop} {K : List D → En → Prop} (I : Nat → List D → En → Prop) : ∀ {xs acc : List D} {env : En} (n : Nat), I n acc env →
    (∀ (k : Nat) (x : D) (acc : List D) (env : En) (N : Option D → En → Prop), xs[k]? = some x → I (n + k) acc env → (∀ o e, (match o with | some y => acc.length < sizeLine ∧ I (n + k + 1) (acc ++ [y]) e | none => I (n + k + 1) acc e) → N o e) → body x env N) →
    (∀ acc env, I (n + xs.length) acc env → K acc env) → lcLoop body xs acc env K
  | [], acc, env, n, h0, _, hd => hd acc env h0
  | x :: xs, acc, env, n, h0, hs, hd => by
    refine hs 0 x acc env _ rfl h0 fun o e he => ?_
    have rc : ∀ acc e, I (n + 1) acc e → lcLoop body xs acc e K := fun acc e he => by
      refine lc_inv I (n + 1) he (fun k y acc e' N hy hi hn => ?_) fun acc e' h' => hd acc e' (by rw [List.length_cons, ← Nat.add_assoc, Nat.add_right_comm]; exact h')
      have e1 : n + 1 + k = n + (k + 1) := by omega
      rw [e1] at hi
      exact hs (k + 1) y acc e' N hy hi fun o e he => hn o e (by rw [e1]; exact he)
    cases o with
    | none => exact rc _ _ he
    | some y => exact ⟨he.1, rc _ _ he.2⟩
/-- .. that changes nothing -/
theorem lc_pure {body : D → En → (Option D → En → Prop) → Prop} {K : List D → En → Prop} {env : En} (f : D → Option D) : ∀ {xs acc : List D}, acc.length + xs.length ≤ sizeLine →
    (∀ (x : D) (N : Option D → En → Prop), x ∈ xs → N (f x) env → body x env N) → K (acc ++ xs.filterMap f) env → lcLoop body xs acc env K
  | [], acc, _, _, k => by
    rw [List.filterMap_nil, List.append_nil] at k
    exact k
  | x :: xs, acc, hz, hs, k => by
    refine hs x _ List.mem_cons_self ?_
    rw [List.length_cons] at hz
    cases e : f x with
    | none => exact lc_pure f (by omega) (fun y N hy => hs y N (List.mem_cons_of_mem _ hy)) (by rw [List.filterMap_cons, e] at k; exact k)
    | some y => exact ⟨by omega, lc_pure f (by simp; omega) (fun y N hy => hs y N (List.mem_cons_of_mem _ hy)) (by rw [List.filterMap_cons, e] at k; simpa using k)⟩
theorem dc_pure {body : D → En → (Option (Key × D) → En → Prop) → Prop} {K : List (Key × D) → En → Prop} {env : En} (f : D → Option (Key × D)) : ∀ {xs : List D} {acc : List (Key × D)}, acc.length + xs.length ≤ sizeLine →
    (∀ (x : D) (N : Option (Key × D) → En → Prop), x ∈ xs → N (f x) env → body x env N) → K (mergeD acc (xs.filterMap f)) env → dcLoop body xs acc env K
  | [], acc, _, _, k => k
  | x :: xs, acc, hz, hs, k => by
    refine hs x _ List.mem_cons_self ?_
    rw [List.length_cons] at hz
    have lp : ∀ (acc : List (Key × D)) (k : Key) (v : D), (putD acc k v).length ≤ acc.length + 1 := fun acc k v => by
      unfold putD
      split <;> simp
    cases e : f x with
    | none => exact dc_pure f (by omega) (fun y N hy => hs y N (List.mem_cons_of_mem _ hy)) (by rw [List.filterMap_cons, e] at k; exact k)
    | some y => exact ⟨by omega, dc_pure f (by have := lp acc y.1 y.2; omega) (fun y N hy => hs y N (List.mem_cons_of_mem _ hy)) (by rw [List.filterMap_cons, e] at k; exact k)⟩
end Mp
namespace Mp
open PySem PySem.Spec PyProof.Rows L2
/-! ### what the head tells -/
structure HD (fb : List FB) (fn : List He5.DefA) (K : PySem.W.Frag) (mg : Str → Option Value) : Prop where
  ex : ∃ h : Heap, K.In h ∧ h.Ns mainGlobals mg
  ob : obM fb fn K = vaM fn
section
variable {fb : List FB} {fn : List He5.DefA} {K : PySem.W.Frag} {mg : Str → Option Value}
theorem HD.fact (h : HD fb fn K mg) (i : Nat) {f : FB} (e : fb[i]? = some f) : f K = true :=
  List.all_eq_true.mp (congrArg (fun z : Bool × He.AlD => z.1) h.ob) f (List.mem_of_getElem? e)
theorem HD.def_ (h : HD fb fn K mg) (i : Nat) {d : He5.DefA} (e : fn[i]? = some d) : ∃ fd, L2.FunD K d.name d.qual d.params d.body d.scope (d.dvs K) (d.kws K) (d.at_ K) fd :=
  He5.SaysA.def_ (fa := []) (fn := fn) (show He5.obsA [] fn K = He5.valA fn from congrArg (fun z : Bool × He.AlD => z.2) h.ob) i e
theorem HD.free (h : HD fb fn K mg) {x : Str} (i : Nat) (e : fb[i]? = some (bFree x)) : mg x = none := by
  obtain ⟨hp, X, G⟩ := h.ex
  exact He.free_ok X G (h.fact i e)
theorem HD.glo (h : HD fb fn K mg) {x : Str} (i : Nat) (e : fb[i]? = some (bGlo x)) : mg x = some (.ref (He.ga K x)) := by
  obtain ⟨hp, X, G⟩ := h.ex
  exact He.glo_ok X G (h.fact i e)
theorem HD.setOk (h : HD fb fn K mg) {x f : Str} (i j k : Nat) (e : fb[i]? = some (bGlo x)) (e2 : fb[j]? = some (bCls x)) (e3 : fb[k]? = some (bNoat x f)) : SetOk K mg x f := fun C hC => by
  rw [h.glo i e] at hC; cases hC
  exact ⟨He.cls_ok (h.fact j e2), He.noat_ok (h.fact k e3)⟩
theorem HD.mkr (h : HD fb fn K mg) {x : Str} (i : Nat) (e : fb[i]? = some (bMkr x)) : Mk K (He.ga K x) (He.ma K (He.ga K x) "__init__") := He.mkr_ok (h.fact i e)
theorem HD.meth (h : HD fb fn K mg) {x m : Str} (i j k : Nat) (e : fb[i]? = some (bGlo x)) (e2 : fb[j]? = some (bCls x)) (e3 : fb[k]? = some (bMeth x m)) : ∀ C, mg x = some (.ref C) → Cls K C ∧ Meth K C m (He.ma K (He.ga K x) m) := fun C hC => by
  rw [h.glo i e] at hC; cases hC
  exact ⟨He.cls_ok (h.fact j e2), He.meth_ok (h.fact k e3)⟩
/-! a class as it is read -/
theorem bRd_ok {x : Str} (h : bRd x K = true) : ClX.CRead K (He.ga K x) (.type "type") := by
  obtain ⟨h1, h2⟩ := He.ba h
  exact ⟨h1, He.eqO_ok h2⟩
theorem HD.stat (h : HD fb fn K mg) {x m : Str} (i j k : Nat) (e : fb[i]? = some (bGlo x)) (e2 : fb[j]? = some (bRd x)) (e3 : fb[k]? = some (bSta x m)) : ∀ C, mg x = some (.ref C) → ∃ p, Sta K C m p (He5.wf K (He.ga K x) "staticmethod" m) := fun C hC => by
  rw [h.glo i e] at hC; cases hC
  have r := bRd_ok (h.fact j e2)
  obtain ⟨h1, h2⟩ := He.ba (h.fact k e3)
  obtain ⟨h2, h3⟩ := He.ba h2
  obtain ⟨q1, q2⟩ := He5.wrapB_ok h1
  exact ⟨_, ⟨r.rd, r.ga, q1, q2, h2, h3⟩⟩
theorem HD.prop (h : HD fb fn K mg) {x m : Str} (i j k : Nat) (e : fb[i]? = some (bGlo x)) (e2 : fb[j]? = some (bCls x)) (e3 : fb[k]? = some (bProp x m)) : ∀ C, mg x = some (.ref C) → Cls K C ∧ ∃ p, PropOf K C m p (He5.wf K (He.ga K x) "property" m) := fun C hC => by
  rw [h.glo i e] at hC; cases hC
  obtain ⟨h1, h2⟩ := He.ba (h.fact k e3)
  obtain ⟨h2, h3⟩ := He.ba h2
  obtain ⟨h3, h4⟩ := He.ba h3
  refine ⟨He.cls_ok (h.fact j e2), _, He.eqO_ok h1, He.eqO_ok h2, of_decide_eq_true h3, ?_⟩
  unfold He5.wf
  split at h4
  · rename_i f r q
    exact ⟨r, by rw [q]⟩
  · cases h4
/-! constants -/
mutual
theorem repB_ok : ∀ {d : D} {u : Value}, repB K d u = true → ∃ v, RelV v u ∧ ∀ H, Rep K mg H v d
  | .non, u, h => by
    cases u <;> first | exact ⟨.non, rfl, fun _ => .non⟩ | cases h
  | .bl b, u, h => by
    cases u with
    | bool c => have e := eq_of_beq (show (b == c) = true from h); subst e; exact ⟨.bl b, rfl, fun _ => .bl⟩
    | _ => cases h
  | .int i, u, h => by
    cases u with
    | int j t => have e : i = j := of_decide_eq_true h; subst e; exact ⟨.int i, ⟨t, rfl⟩, fun _ => .int⟩
    | _ => cases h
  | .str i, u, h => by
    cases u with
    | str j t => have e : i = j := of_decide_eq_true h; subst e; exact ⟨.str i, ⟨t, rfl⟩, fun _ => .str⟩
    | _ => cases h
  | .tup ds, u, h => by
    cases u with
    | ref a =>
      unfold repB at h
      split at h
      · rename_i c od its n sl q
        obtain ⟨h1, h2⟩ := He.ba h
        obtain ⟨h2, h3⟩ := He.ba h2
        obtain ⟨vs, hv, hr⟩ := repBs_ok h3
        exact ⟨.ref a, rfl, fun H => .tup (.inr ⟨_, its, n, q, congrArg Value.type (of_decide_eq_true h1), rfl, of_decide_eq_true h2, hv⟩) (hr H)⟩
      · cases h
    | _ => cases h
  | .ty _, u, h => by cases u <;> cases h
  | .glo _, u, h => by cases u <;> cases h
  | .lst _, u, h => by cases u <;> cases h
  | .dic _, u, h => by cases u <;> cases h
  | .ins _ _, u, h => by cases u <;> cases h
  | .scr _, u, h => by cases u <;> cases h
theorem repBs_ok : ∀ {ds : List D} {us : List Value}, repBs K ds us = true → ∃ vs, Vals vs us ∧ ∀ H, Reps K mg H vs ds
  | [], [], _ => ⟨[], .nil, fun _ => .nil⟩
  | d :: ds, u :: us, h => by
    obtain ⟨h1, h2⟩ := He.ba (show (repB K d u && repBs K ds us) = true from h)
    obtain ⟨v, q1, q2⟩ := repB_ok h1
    obtain ⟨vs, p1, p2⟩ := repBs_ok h2
    exact ⟨v :: vs, .cons q1 p1, fun H => .cons (q2 H) (p2 H)⟩
  | [], _ :: _, h => by cases h
  | _ :: _, [], h => by cases h
end
section
variable {P : Program} {w : World} {base : Heap} {k : Nat}
theorem HD.con (h : HD fb fn K mg) {x : Str} {d : D} (i : Nat) (e : fb[i]? = some (bCon x d)) : GloOk ⟨P, w, K, mg, base, k⟩ x d := by
  obtain ⟨hp, X, G⟩ := h.ex
  have q : (match PySem.W.nsIn K mainGlobals x with
    | some (some u) => repB K d u
    | _ => false) = true := h.fact i e
  split at q
  · rename_i u hu
    obtain ⟨v, r1, r2⟩ := repB_ok (mg := mg) q
    exact .inl ⟨v, u, PySem.W.mg_of X G hu, r1, r2⟩
  · cases q
theorem HD.cls (h : HD fb fn K mg) {x : Str} (i : Nat) (e : fb[i]? = some (bGlo x)) : GloOk ⟨P, w, K, mg, base, k⟩ x (.glo x) :=
  .inl ⟨.ref (He.ga K x), .ref (He.ga K x), h.glo i e, rfl, fun _ => .glo (h.glo i e)⟩
theorem HD.typ (h : HD fb fn K mg) {x : Str} {n : String} (i : Nat) (e : fb[i]? = some (bFree x)) (hn : x ≠ "__name__") (hb : bootBuiltins x = some (.type n)) : GloOk ⟨P, w, K, mg, base, k⟩ x (.ty n) :=
  .inr ⟨h.free i e, hn, n, hb, rfl⟩
theorem HD.val1 (h : HD fb fn K mg) {x f : Str} {d : D} (i j k : Nat) (e : fb[i]? = some (bGlo x)) (e2 : fb[j]? = some (bRd x)) (e3 : fb[k]? = some (bVal x f d)) : ∀ C, mg x = some (.ref C) → ∃ mc v u, ClX.CRead K C mc ∧ ClX.CVal K C mc f v u ∧ ∀ H, Rep K mg H v d := fun C hC => by
  rw [h.glo i e] at hC; cases hC
  have q : (match PySem.W.findCls K (.ref (He.ga K x)) (.type "type") f with
    | some (.val u) => repB K d u
    | _ => false) = true := h.fact k e3
  split at q
  · rename_i u hu
    obtain ⟨v, r1, r2⟩ := repB_ok (mg := mg) q
    exact ⟨_, v, u, bRd_ok (h.fact j e2), ⟨hu, r1⟩, r2⟩
  · cases q
/-! isinstance -/
theorem HD.isi (h : HD fb fn K mg) {tb : List (Tag × Tag × Bool)} (i : Nat) (e : fb[i]? = some (bIsi tb)) : IsiOk ⟨P, w, K, mg, base, k⟩ tb := by
  obtain ⟨hp, X, G⟩ := h.ex
  have q := List.all_eq_true.mp (h.fact i e)
  have tv : ∀ t v, (∀ x ∈ tagX t, bGlo x K = true) → TagV mg t v → v = tagV K t := fun t v hx tv => by
    cases t with
    | inl n => exact tv
    | inr x =>
      obtain ⟨C, hC, rfl⟩ := tv
      rw [He.glo_ok X G (hx x (List.mem_singleton.mpr rfl))] at hC
      cases hC; rfl
  refine ⟨fun p hp tv1 uv h1 h2 => ?_, fun p hp x C e1 hC => ?_⟩
  · obtain ⟨q1, _⟩ := He.ba (q p hp)
    obtain ⟨q1, q2⟩ := He.ba q1
    have q2 := List.all_eq_true.mp q2
    rw [tv _ _ (fun x hx => q2 x (List.mem_append_left _ hx)) h1, tv _ _ (fun x hx => q2 x (List.mem_append_right _ hx)) h2]
    exact of_decide_eq_true q1
  · obtain ⟨q1, q3⟩ := He.ba (q p hp)
    obtain ⟨_, q2⟩ := He.ba q1
    have q2 := List.all_eq_true.mp q2
    have q3 := List.all_eq_true.mp q3
    have m : x ∈ tagX p.1 := by rw [e1]; exact List.mem_singleton.mpr rfl
    have hC : mg x = some (.ref C) := hC
    rw [He.glo_ok X G (q2 x (List.mem_append_left _ m))] at hC
    cases hC
    obtain ⟨z1, z2⟩ := He.ba (q3 x m)
    obtain ⟨z2, z3⟩ := He.ba z2
    obtain ⟨z3, z4⟩ := He.ba z3
    obtain ⟨z4, z5⟩ := He.ba z4
    exact ⟨He.cls_ok z1, He.eqO_ok z2, He.eqO_ok z3, of_decide_eq_true z4, of_decide_eq_true z5⟩
end
end
/-- the law's row from the reading of its def -/
theorem spD_law {K : PySem.W.Frag} {mg : Str → Option Value} {H : Hp} {a : Addr} {ns : List Int} {dn : Den} (hS : SqL K H a (ns.map V.int)) (h : dn [.d (.scr (ns.map D.int))] (fun r _ => r = .d (.bl true)) (fun _ _ => False)) : spD K mg dn [.ref a] H (fun v _ => v = .bl true) (fun _ _ _ => False) := by
  have rp : ∀ ns : List Int, Reps K mg H (ns.map V.int) (ns.map D.int) := fun ns => by
    induction ns with
    | nil => exact .nil
    | cons n ns ih => exact .cons .int ih
  refine ⟨H, [.d (.scr (ns.map D.int))], _, ⟨Same.refl _, rfl, fun i rv e => ?_, fun i j rv rv' b hij e1 e2 o1 o2 s1 s2 => ?_⟩, h, fun r rvs' k v Hs' H' t ok sb w fr => ?_⟩
  · cases i with
    | zero =>
      have e : RV.d (.scr (ns.map D.int)) = rv := by simpa using e
      subst e
      exact ⟨_, rfl, .scr hS (rp ns)⟩
    | succ i => simp at e
  · cases i with
    | zero =>
      have e1 : RV.d (.scr (ns.map D.int)) = rv := by simpa using e1
      subst e1; cases o1
    | succ i => simp at e1
  · subst k
    exact own_bl w rfl
end Mp
namespace Mp
open PySem PySem.Spec PyProof.Rows L2
/-! ### further operations -/
section
variable {c : CC} {X : Cx}
theorem intsD_map (ns : List Int) : intsD (ns.map D.int) = some ns := by
  induction ns with
  | nil => rfl
  | cons b bs ih =>
    show (intsD (bs.map D.int)).map (b :: ·) = _
    rw [ih]; rfl
theorem reps_int {K : PySem.W.Frag} {mg : Str → Option Value} {H : Hp} : ∀ (ns : List Int), Reps K mg H (ns.map V.int) (ns.map D.int)
  | [] => .nil
  | _ :: ns => .cons .int (reps_int ns)
/-- sorted of ints: some rising rearrangement -/
def dSorted : Den := fun args Q _ => ∃ ns, args.map RV.fz = [.lst (ns.map D.int)] ∧ ∀ ns' : List Int, ns'.Perm ns → ns'.Pairwise (· ≤ ·) → Q (.olst (ns'.map D.int)) args
theorem k_sorted (hm : c.mg "sorted" = none) : PrimOk c (.call "sorted") dSorted := cb_of rfl (by decide) (by decide) hm fun X ic => by
  intro pins s σ H vs us Q I rr q
  obtain ⟨Hs, rvs, Kq, ok, ⟨ns, e, k⟩, h2⟩ := q
  refine cr_sortedI pins s σ H vs us Q I rr ?_
  obtain ⟨v, ra, rfl, rfl, e1, w⟩ := argsA ok e
  obtain ⟨p, ys, rfl, hp, r⟩ := own_lst w ok.sub e1
  have ey : ys = ns.map V.int := intsD_rep (intsD_map ns) r
  subst ey
  exact ⟨p, ns, rfl, SqL.of hp, fun ns' p1 pm pw n1 => post_lst h2 ok (k ns' pm pw) n1 (reps_int ns')⟩
def gIsB : List D → Option RV
  | [.bl a, .bl b] => some (.d (.bl (decide (a = b))))
  | _ => none
def gNotB : List D → Option RV
  | [.bl a, .bl b] => some (.d (.bl (!decide (a = b))))
  | _ => none
theorem k_isB : PrimOk c (.cmp .Is) (funD gIsB) := fun X _ => by
  refine op2_of op_isBl fun x y H Hs ra rb Kq Q z ok w1 w2 hg k h2 => ?_
  generalize e1 : ra.fz = a at hg
  generalize e2 : rb.fz = b at hg
  unfold gIsB at hg
  split at hg
  · cases ‹[a, b] = _›; cases hg
    exact ⟨_, _, own_bl w1 e1, own_bl w2 e2, post_d h2 ok k .bl⟩
  · cases hg
def gSum : List D → Option RV
  | [.lst xs] => (intsD xs).map fun ns => .d (.int ns.sum)
  | _ => none
theorem k_sum (hm : c.mg "sum" = none) : PrimOk c (.call "sum") (funD gSum) := cb_of rfl (by decide) (by decide) hm fun X ic =>
  cr_of (cr_sum ic.calm) fun vs rvs H Hs Kq Q z ok hg k h2 => by
    generalize e : rvs.map RV.fz = l at hg
    unfold gSum at hg
    split at hg
    · obtain ⟨ns, en, rfl⟩ := Option.map_eq_some_iff.mp hg
      obtain ⟨v, ra, rfl, rfl, e1, w⟩ := argsA ok e
      obtain ⟨p, ys, rfl, hp, r⟩ := own_lst w ok.sub e1
      have ey := intsD_rep en r
      subst ey
      exact ⟨p, ns, rfl, SqL.of hp, post_d h2 ok k .int⟩
    · cases hg
def gAddI := gI always fun i j => .int (i + j)
theorem a_add : AugOk c .Add (funD gAddI) := fun X _ => by
  intro pins s σ H x y v u Q I r1 r2 q
  obtain ⟨Hs, rvs, Kq, ok, ⟨z, hg, k⟩, h2⟩ := q
  obtain ⟨ra, rb, rfl, w1, w2⟩ := args2 ok
  obtain ⟨i, j, e1, e2, _, rfl⟩ := gI_eq (show gI always (fun i j => .int (i + j)) [ra.fz, rb.fz] = some z from hg)
  exact ip_add pins s σ H x y v u Q I r1 r2 ⟨i, j, own_int w1 e1, own_int w2 e2, post_d h2 ok k .int⟩
theorem gAddI_ok {i j : Int} : gAddI [.int i, .int j] = some (.d (.int (i + j))) := rfl
theorem k_notB : PrimOk c (.cmp .IsNot) (funD gNotB) := fun X _ => by
  refine op2_of op_notBl fun x y H Hs ra rb Kq Q z ok w1 w2 hg k h2 => ?_
  generalize e1 : ra.fz = a at hg
  generalize e2 : rb.fz = b at hg
  unfold gNotB at hg
  split at hg
  · cases ‹[a, b] = _›; cases hg
    exact ⟨_, _, own_bl w1 e1, own_bl w2 e2, post_d h2 ok k .bl⟩
  · cases hg
theorem gIsB_ok {a b : Bool} : gIsB [.bl a, .bl b] = some (.d (.bl (decide (a = b)))) := rfl
theorem gNotB_ok {a b : Bool} : gNotB [.bl a, .bl b] = some (.d (.bl (!decide (a = b)))) := rfl
/-- [x] * n -/
def gMulL : List D → Option RV
  | [.lst xs, .int k] => if -(2 ^ 63) ≤ k ∧ k < 2 ^ 63 ∧ xs.length * k.toNat ≤ sizeLine then some (.olst (List.replicate k.toNat xs).flatten) else none
  | _ => none
theorem Reps.repl {K : PySem.W.Frag} {mg : Str → Option Value} {H : Hp} {vs : List V} {xs : List D} (r : Reps K mg H vs xs) : ∀ n, Reps K mg H (List.replicate n vs).flatten (List.replicate n xs).flatten
  | 0 => .nil
  | n + 1 => by rw [List.replicate_succ, List.replicate_succ, List.flatten_cons, List.flatten_cons]; exact r.append (r.repl n)
theorem k_mulL : PrimOk c (.bin .Mult) (funD gMulL) := fun X _ => by
  refine op2_of op_rep fun x y H Hs ra rb Kq Q z ok w1 w2 hg k h2 => ?_
  generalize e1 : ra.fz = a at hg
  generalize e2 : rb.fz = b at hg
  unfold gMulL at hg
  split at hg
  · rename_i xs n e
    cases e
    by_cases hc : -(2 ^ 63) ≤ n ∧ n < 2 ^ 63 ∧ xs.length * n.toNat ≤ sizeLine
    · rw [if_pos hc] at hg; cases hg
      obtain ⟨p, vs, rfl, hp, r⟩ := own_lst w1 ok.sub e1
      exact ⟨p, n, vs, rfl, own_int w2 e2, hp, hc.1, hc.2.1, by rw [r.length]; exact hc.2.2, fun q hq => post_lst h2 ok k hq (r.repl _)⟩
    · rw [if_neg hc] at hg; cases hg
  · cases hg
/-- < of tuples of ints -/
def gLtT : List D → Option RV
  | [.tup xs, .tup ys] => match intsD xs, intsD ys with
    | some ns, some ms => some (.d (.bl (HT.lexLt ns ms)))
    | _, _ => none
  | _ => none
theorem k_ltT : PrimOk c (.cmp .Lt) (funD gLtT) := fun X ic => by
  refine op2_of (op_ltT (by have := ic.units; omega)) fun x y H Hs ra rb Kq Q z ok w1 w2 hg k h2 => ?_
  generalize e1 : ra.fz = a at hg
  generalize e2 : rb.fz = b at hg
  unfold gLtT at hg
  split at hg
  · rename_i xs ys e
    cases e
    cases h1 : intsD xs with
    | none => rw [h1] at hg; cases hg
    | some ns =>
      cases h3 : intsD ys with
      | none => rw [h1, h3] at hg; cases hg
      | some ms =>
        rw [h1, h3] at hg; cases hg
        obtain ⟨p, vs, rfl, hp, r⟩ := own_tup w1 ok.sub e1
        obtain ⟨p', ws, rfl, hp', r'⟩ := own_tup w2 ok.sub e2
        have q1 := intsD_rep h1 r
        have q2 := intsD_rep h3 r'
        subst q1 q2
        exact ⟨p, p', ns, ms, rfl, rfl, hp, hp', post_d h2 ok k .bl⟩
  · cases hg
/-- d.get(k, x), the other value frozen -/
def dGet2 : Den := fun args Q _ => ∃ r0 r1 d kvs ky, args = [r0, r1, .d d] ∧ r0.fz = .dic kvs ∧ keyOf r1.fz = some ky ∧ Q (.d ((Mp.getD kvs ky).getD d)) args
theorem k_get2 : MethOk c "get" isDic dGet2 := m_of PySem.F.plainAttrs_dict PySem.F.slot_dict_get PySem.F.type_dict_get (fun _ _ => rec_dic) fun X ic => by
  intro pins s σ H x us v ws Q I rx rs q
  obtain ⟨Hs, rvs, Kq, ok, ⟨r0, r1, dd, kvs, ky, rfl, e1, hk, k⟩, h⟩ := q
  have w1 : Own X.K X.mg Hs H x r0 := by
    obtain ⟨v, e, w⟩ := ok.at_ 0 r0 rfl
    cases e; exact w
  have hl := ok.len
  simp only [List.length_map, List.length_cons, List.length_nil] at hl
  match us, hl with
  | [u1, u2], _ =>
    have w2 : Own X.K X.mg Hs H u1 r1 := by
      obtain ⟨v, e, w⟩ := ok.at_ 1 r1 rfl
      cases e; exact w
    have w3 : Own X.K X.mg Hs H u2 (.d dd) := by
      obtain ⟨v, e, w⟩ := ok.at_ 2 (.d dd) rfl
      cases e; exact w
    obtain ⟨p, ks, rfl, hp, r⟩ := own_dic w1 ok.sub e1
    have eu := own_key w2 hk
    obtain ⟨u', v', rfl, ru, rv⟩ := rs.two
    cases rx
    refine d_get2 (by have := ic.units64; omega) I (.inl ⟨ks, ky, hp, eu, rfl⟩) ru rv fun w' s' I' rw' => ⟨_, H, I', rw', ?_⟩
    rcases r.valV (k := ky) with ⟨vv, d, q1, q2, rr⟩ | ⟨q1, q2⟩
    · rw [q1]; rw [q2] at k; exact post_d h ok k rr
    · rw [q1]; rw [q2] at k; exact post_d h ok k w3
theorem c_get2 {E : XE} {env : En} {K : AV → En → Prop} {av bv : AV} {d x : D} {kvs : List (Key × D)} {ky : Key} (nd : (slots [av, bv]).Nodup) (h1 : AvD env av (.dic kvs)) (h2 : AvD env bv d) (hk : keyOf d = some ky) (k : K (.rv (.d ((Mp.getD kvs ky).getD x))) env) : callDen dGet2 [av, bv, .rv (.d x)] env K E := by
  obtain ⟨r1, g1, e1⟩ := h1
  obtain ⟨r2, g2, e2⟩ := h2
  have g : gets env [av, bv, .rv (.d x)] = some [r1, r2, .d x] := by
    show (match av.get env with | some x => (match bv.get env with | some y => (gets env [.rv (.d _)]).map (y :: ·) | none => none).map (x :: ·) | none => none) = _
    rw [g1, g2]; rfl
  have nd' : (slots [av, bv, .rv (.d x)]).Nodup := by
    cases av <;> cases bv <;> exact nd
  exact ⟨nd', _, g, r1, r2, x, kvs, ky, rfl, e1, by rw [e2]; exact hk, by show K (AV.rv _) (puts env _ _); rw [puts_same g]; exact k⟩
theorem cd_id {E : XE} {env : En} {K : AV → En → Prop} {dn : Den} {avs : List AV} (k : callDen dn avs env K E) : callDen dn avs env K E := k
/-! comprehensions, step by step -/
section
variable {E : XE} {env : En} {own own1 : List Nat} {tg tg1 : Tg} {src src1 : Src} {cond cond1 es : SEs} {elt e a b : SE}
theorem v_lc {K : AV → En → Prop} (h : denSrc E src env fun xs env1 => lcLoop (fun x e K' => src.hold xs e ∧ ∃ e1, bindT tg x (wipeE e own) = some e1 ∧ denC E cond e1 fun b e2 =>
        if b = true then kept (den2 E elt).v e2 fun y e3 => K' (some y) (backE e e3 own) else K' none (backE e e2 own)) xs [] env1 fun acc env2 => src.hold xs env2 ∧ K (.rv (.olst acc)) env2) : (den2 E (.lc own tg src cond elt)).v env K := h
theorem v_lc2 {K : AV → En → Prop} (h : denSrc E src env fun xs env1 => lc2Loop (fun x acc e K' => ∃ e1, bindT tg x (wipeE e own) = some e1 ∧ denC E cond e1 fun b e2 =>
        if b = true then denSrc E src1 e2 fun ys e3 =>
          lcLoop (fun y e' K'' => src1.hold ys e' ∧ ∃ e4, bindT tg1 y (wipeE e' own1) = some e4 ∧ denC E cond1 e4 fun b1 e5 =>
            if b1 = true then kept (den2 E elt).v e5 fun z e6 => K'' (some z) (backE e' e6 own1) else K'' none (backE e' e5 own1)) ys acc e3 fun acc1 e7 => src1.hold ys e7 ∧ K' acc1 (backE e e7 own)
        else K' acc (backE e e2 own)) xs [] env1 fun acc env2 => K (.rv (.olst acc)) env2) : (den2 E (.lc2 own own1 tg src cond tg1 src1 cond1 elt)).v env K := h
theorem v_dc {K : AV → En → Prop} (h : denSrc E src env fun xs env1 => dcLoop (fun x e K' => ∃ e1, bindT tg x (wipeE e own) = some e1 ∧ denC E cond e1 fun b2 e2 =>
        if b2 = true then kept (den2 E a).v e2 fun kd e3 => kept (den2 E b).v e3 fun y e4 => ∃ ky, keyOf kd = some ky ∧ K' (some (ky, y)) (backE e e4 own) else K' none (backE e e2 own)) xs [] env1 fun acc env2 => K (.rv (.odic acc)) env2) : (den2 E (.dc own tg src cond a b)).v env K := h
theorem q_nil {K : Bool → En → Prop} (k : K true env) : denC E .nil env K := k
theorem q_cons {K : Bool → En → Prop} (k : (den2 E e).t env K) : denC E (.cons e es) env K := k
theorem si_nil {A : Prop} (k : A) : (∀ d ∈ ([] : List D), ∃ i, d = .int i) ∧ A := ⟨fun d h => (nomatch h), k⟩
theorem si_one {A : Prop} {i : Int} (k : A) : (∀ d ∈ [D.int i], ∃ i, d = .int i) ∧ A := ⟨fun d h => ⟨i, by simpa using h⟩, k⟩
theorem s_while {bor : Nat → Bool} {D0 : DE} {t : SE} {body : SSs} (W : Nat → En → Prop) (n : Nat) (h0 : W n env) (h : ∀ n env, W n env → (den2 E t).t env fun c env1 =>
      if c = true then denSs E bor body env1 { nx := fun e => ∃ m, m < n ∧ W m e, rt := D0.rt, bk := D0.nx, ct := fun e => ∃ m, m < n ∧ W m e } else D0.nx env1) : denS E bor (.while_ t body) env D0 := ⟨W, ⟨n, h0⟩, h⟩
end
theorem x_ex1 {α : Type} {P Q : α → Prop} (w : α) (h : P w) (k : Q w) : ∃ x, P x ∧ Q x := ⟨w, h, k⟩
theorem x_ex2 {α β : Type} {P Q R : α → β → Prop} (w : α) (v : β) (h : P w v) (h2 : Q w v) (k : R w v) : ∃ x y, P x y ∧ Q x y ∧ R x y := ⟨w, v, h, h2, k⟩
theorem ite_yes {c : Prop} [Decidable c] {A B : Prop} (h : decide c = true) (k : A) : if c then A else B := by rw [if_pos (of_decide_eq_true h)]; exact k
theorem ite_no {c : Prop} [Decidable c] {A B : Prop} (h : decide c = false) (k : B) : if c then A else B := by rw [if_neg (of_decide_eq_false h)]; exact k
theorem ite_dt {p : Prop} [Decidable p] {A B : Prop} (h : p) (k : A) : if decide p = true then A else B := by rw [if_pos (decide_eq_true h)]; exact k
theorem ite_df {p : Prop} [Decidable p] {A B : Prop} (h : ¬ p) (k : B) : if decide p = true then A else B := by rw [if_neg (by simpa using h)]; exact k
theorem ite_ndt {p : Prop} [Decidable p] {A B : Prop} (h : p) (k : B) : if (!decide p) = true then A else B := by rw [if_neg (by simpa using h)]; exact k
theorem ite_ndf {p : Prop} [Decidable p] {A B : Prop} (h : ¬ p) (k : A) : if (!decide p) = true then A else B := by rw [if_pos (by simpa using h)]; exact k
theorem ite_fdt {p : Prop} [Decidable p] {A B : Prop} (h : p) (k : B) : if decide p = false then A else B := by rw [if_neg (by simpa using h)]; exact k
theorem ite_fdf {p : Prop} [Decidable p] {A B : Prop} (h : ¬ p) (k : A) : if decide p = false then A else B := by rw [if_pos (by simpa using h)]; exact k
theorem ite_dec0 {p : Prop} [Decidable p] {A B : Prop} (h1 : p → B) (h2 : ¬ p → A) : if decide p = false then A else B := by
  by_cases h : p
  · exact ite_fdt h (h1 h)
  · exact ite_fdf h (h2 h)
theorem ite_ndec {p : Prop} [Decidable p] {A B : Prop} (h1 : p → B) (h2 : ¬ p → A) : if (!decide p) = true then A else B := by
  by_cases h : p
  · exact ite_ndt h (h1 h)
  · exact ite_ndf h (h2 h)
end
end Mp
namespace Mp
open PySem PySem.Spec PyProof.Rows L2
/-! ### fields, editions: what they are as data -/
structure Fld where
  num : Int
  name : Str
  kind : Str
  pre : D
def rowD (f : Fld) : D := .tup [.int f.num, .str f.name, .str f.kind, f.pre]
def preOk (k : Str) (d : D) : Prop := d = .non ∨ (k = Str.ofString "text" ∧ ∃ s : Str, d = .str s ∧ s.length ≤ 60) ∨ (k = Str.ofString "small" ∧ ∃ i, d = .int i ∧ 0 ≤ i ∧ i ≤ 255) ∨ (k = Str.ofString "whole" ∧ ∃ i, d = .int i ∧ 0 ≤ i ∧ i ≤ 1000000000000000000) ∨ (k = Str.ofString "signed" ∧ ∃ i, d = .int i ∧ -1000000000000000000 ≤ i ∧ i ≤ 1000000000000000000)
def kindOk (k : Str) : Prop := k = Str.ofString "small" ∨ k = Str.ofString "whole" ∨ k = Str.ofString "signed" ∨ k = Str.ofString "text"
structure FOk (f : Fld) : Prop where
  k : kindOk f.kind
  p : preOk f.kind f.pre
/-- the program's field, edition -/
def fldD (f : Fld) : D := .ins (Str.ofString "Field") [(Str.ofString "number", .int f.num), (Str.ofString "name", .str f.name), (Str.ofString "kind", .str f.kind), (Str.ofString "preset", f.pre)]
def edD (A : List Fld) : D := .ins (Str.ofString "Edition") [(Str.ofString "fields", .tup (A.map fldD))]
theorem gVal_ok {l : List (Str × D)} {x : Str} {d : D} (h : l.lookup x = some d) : gVal l [.glo x] = some (.d d) := by
  show (l.lookup x).map RV.d = _
  rw [h]; rfl
theorem ga_num {f : Fld} : gAttr [Str.ofString "Field"] (Str.ofString "number") [fldD f] = some (.d (.int f.num)) := gAttr_ok (List.Mem.head _) rfl
theorem ga_name {f : Fld} : gAttr [Str.ofString "Field"] (Str.ofString "name") [fldD f] = some (.d (.str f.name)) := gAttr_ok (List.Mem.head _) rfl
theorem ga_kind {f : Fld} : gAttr [Str.ofString "Field"] (Str.ofString "kind") [fldD f] = some (.d (.str f.kind)) := gAttr_ok (List.Mem.head _) rfl
theorem ga_pre {f : Fld} : gAttr [Str.ofString "Field"] (Str.ofString "preset") [fldD f] = some (.d f.pre) := gAttr_ok (List.Mem.head _) rfl
theorem ga_fields {A : List Fld} : gAttr [Str.ofString "Edition"] (Str.ofString "fields") [edD A] = some (.d (.tup (A.map fldD))) := gAttr_ok (List.Mem.head _) rfl
theorem gIsi_id {tb : List (Tag × Tag × Bool)} {a k : D} {b : Bool} (h : gIsi tb [a, k] = some (.d (.bl b))) : gIsi tb [a, k] = some (.d (.bl b)) := h
end Mp
namespace Mp
open PySem PySem.Spec PyProof.Rows L2
/-- from (w, r) the end of an n x n table can be reached through its good pairs -/
def finF (T : Nat → Nat → Bool) (n w r : Nat) : Bool :=
  if w < n ∧ r < n then T w r && (decide (w = n - 1 ∧ r = n - 1) || (decide (r + 1 < n) && finF T n w (r + 1)) || (decide (w + 1 < n) && finF T n (w + 1) r)) else false
termination_by (n - w) + (n - r)
/-- a table of truth values as data -/
def gridD (n : Nat) (T : Nat → Nat → Bool) : List D := (List.range n).map fun w => .lst ((List.range n).map fun r => .bl (T w r))
/-- finishing_pairs, _law_ends -/
def dn_finishing_pairs : Den := fun args Q _ => ∃ r0 n T, args = [r0] ∧ r0.fz = .lst (gridD n T) ∧ 0 < n ∧ n ≤ 1000 ∧ Q (.olst (gridD n (finF T n))) args
abbrev dn_law_ends : Den := dn_finishing_pairs
end Mp
namespace Mp
open PySem PySem.Spec PyProof.Rows L2
/-! ### tables of truth values whose rows are changed in place -/
abbrev rowV (n : Nat) (f : Nat → Bool) : List V := (List.range n).map fun r => V.bl (f r)
theorem rowV_len {n : Nat} {f : Nat → Bool} : (rowV n f).length = n := by simp [rowV]
theorem rowV_at {n r : Nat} {f : Nat → Bool} (h : r < n) : (rowV n f)[r]? = some (.bl (f r)) := by
  simp [rowV, List.getElem?_map, List.getElem?_range h]
theorem rowV_set {n r : Nat} {f g : Nat → Bool} {x : Bool} (h : r < n) (hg : ∀ k, k < n → g k = if k = r then x else f k) : (rowV n f).set r (.bl x) = rowV n g := by
  apply List.ext_getElem?
  intro k
  by_cases hk : k < n
  · rw [rowV_at hk, hg k hk]
    by_cases e : k = r
    · subst e
      rw [List.getElem?_set_self (by rw [rowV_len]; exact hk), if_pos rfl]
    · rw [List.getElem?_set_ne (Ne.symm e), rowV_at hk, if_neg e]
  · rw [List.getElem?_eq_none (by rw [List.length_set, rowV_len]; omega), List.getElem?_eq_none (by rw [rowV_len]; omega)]
theorem rowV_congr {n : Nat} {f g : Nat → Bool} (h : ∀ k, k < n → f k = g k) : rowV n f = rowV n g := by
  apply List.map_congr_left
  intro k hk
  rw [h k (List.mem_range.mp hk)]
/-- a table that is only read -/
def TabAt (H : Hp) (v : V) (n : Nat) (T : Nat → Nat → Bool) : Prop := ∃ p vs, v = .ref p ∧ H p = some (.lst vs) ∧ vs.length = n ∧ ∀ w, w < n → ∃ b, vs[w]? = some (.ref b) ∧ H b = some (.lst (rowV n (T w)))
theorem TabAt.mono {H H' : Hp} {v : V} {n : Nat} {T : Nat → Nat → Bool} (s : Same H H') (h : TabAt H v n T) : TabAt H' v n T := by
  obtain ⟨p, vs, e, h1, h2, h3⟩ := h
  exact ⟨p, vs, e, s _ _ h1, h2, fun w hw => by obtain ⟨b, q1, q2⟩ := h3 w hw; exact ⟨b, q1, s _ _ q2⟩⟩
/-- a new table -/
structure GrAt (H0 H : Hp) (a : Addr) (bs : List Addr) (n : Nat) (G : Nat → Nat → Bool) : Prop where
  at_ : H a = some (.lst (bs.map V.ref))
  len : bs.length = n
  rows : ∀ (w : Nat) (b : Addr), bs[w]? = some b → H b = some (.lst (rowV n (G w)))
  nd : bs.Nodup
  out : a ∉ bs
  new : H0 a = none
  news : ∀ b ∈ bs, H0 b = none
  same : Same H0 H
theorem GrAt.row {H0 H : Hp} {a : Addr} {bs : List Addr} {n : Nat} {G : Nat → Nat → Bool} (g : GrAt H0 H a bs n G) {w : Nat} (hw : w < n) : ∃ b, (bs.map V.ref)[w]? = some (.ref b) ∧ bs[w]? = some b ∧ H b = some (.lst (rowV n (G w))) := by
  have h : w < bs.length := by rw [g.len]; exact hw
  exact ⟨bs[w], by rw [List.getElem?_map, List.getElem?_eq_getElem h]; rfl, List.getElem?_eq_getElem h, g.rows w _ (List.getElem?_eq_getElem h)⟩
theorem GrAt.congr {H0 H : Hp} {a : Addr} {bs : List Addr} {n : Nat} {G G' : Nat → Nat → Bool} (g : GrAt H0 H a bs n G) (h : ∀ w r, w < n → r < n → G w r = G' w r) : GrAt H0 H a bs n G' :=
  ⟨g.at_, g.len, fun w b e => by
    have hw : w < n := by rw [← g.len]; exact (List.getElem?_eq_some_iff.mp e).1
    rw [g.rows w b e, rowV_congr fun k hk => h w k hw hk], g.nd, g.out, g.new, g.news, g.same⟩
theorem GrAt.set {H0 H : Hp} {a b : Addr} {bs : List Addr} {n w r : Nat} {G G' : Nat → Nat → Bool} {x : Bool} (g : GrAt H0 H a bs n G) (hb : bs[w]? = some b) (hr : r < n) (hG : ∀ w' r', w' < n → r' < n → G' w' r' = if w' = w ∧ r' = r then x else G w' r') :
    GrAt H0 (upd H b (.lst ((rowV n (G w)).set r (.bl x)))) a bs n G' := by
  have mb : b ∈ bs := List.mem_of_getElem? hb
  have hab : a ≠ b := fun e => g.out (e ▸ mb)
  refine ⟨by rw [upd_ne hab]; exact g.at_, g.len, fun w' b' e => ?_, g.nd, g.out, g.new, g.news, fun c o h => ?_⟩
  · have hw' : w' < n := by rw [← g.len]; exact (List.getElem?_eq_some_iff.mp e).1
    by_cases ew : w' = w
    · subst ew
      rw [e] at hb; cases hb
      rw [upd_same, rowV_set (g := G' w') hr fun k hk => by rw [hG w' k hw' hk]; by_cases z : k = r <;> simp [z]]
    · have hne : b' ≠ b := fun z => by
        subst z
        have h1 := (List.getElem?_eq_some_iff.mp e)
        have h2 := (List.getElem?_eq_some_iff.mp hb)
        obtain ⟨l1, q1⟩ := h1
        obtain ⟨l2, q2⟩ := h2
        have nd := g.nd
        rw [List.nodup_iff_pairwise_ne, List.pairwise_iff_getElem] at nd
        rcases Nat.lt_or_gt_of_ne ew with z | z
        · exact nd _ _ l1 l2 z (q1.trans q2.symm)
        · exact nd _ _ l2 l1 z (q2.trans q1.symm)
      rw [upd_ne hne, g.rows w' b' e, rowV_congr (g := G' w') fun k hk => by rw [hG w' k hw' hk, if_neg (fun z => ew z.1)]]
  · have hcb : c ≠ b := fun z => by subst z; rw [g.news _ mb] at h; cases h
    rw [upd_ne hcb]; exact g.same _ _ h
/-- the rows so far -/
structure GrUp (H0 H : Hp) (a : Addr) (bs : List Addr) (n : Nat) : Prop where
  at_ : H a = some (.lst (bs.map V.ref))
  rows : ∀ b ∈ bs, H b = some (.lst (rowV n fun _ => false))
  nd : bs.Nodup
  out : a ∉ bs
  new : H0 a = none
  news : ∀ b ∈ bs, H0 b = none
  same : Same H0 H
theorem GrUp.start {H0 : Hp} {a : Addr} {n : Nat} (h : H0 a = none) : GrUp H0 (upd H0 a (.lst [])) a [] n :=
  ⟨upd_same, (fun b hb => nomatch hb), List.nodup_nil, (fun z => nomatch z), h, (fun b hb => nomatch hb), fun b o e => by rw [upd_ne (fun z => by subst z; rw [h] at e; cases e)]; exact e⟩
theorem GrUp.same' {H0 H : Hp} {a b : Addr} {bs : List Addr} {n : Nat} (g : GrUp H0 H a bs n) {o : HO} (h : H b = none) : Same H0 (upd H b o) := fun c u e => by
  rw [upd_ne (fun z => by subst z; have := g.same _ _ e; rw [h] at this; cases this)]; exact g.same _ _ e
/-- one row more: a new list, put at the end -/
theorem GrUp.more {H0 H H' : Hp} {a b : Addr} {bs : List Addr} {n : Nat} (g : GrUp H0 H a bs n) (hb : H b = none) (s : Same H H') (hr : H' b = some (.lst (rowV n fun _ => false))) :
    H' a = some (.lst (bs.map V.ref)) ∧ GrUp H0 (upd H' a (.lst (bs.map V.ref ++ [.ref b]))) a (bs ++ [b]) n := by
  have hab : b ≠ a := fun e => by subst e; rw [g.at_] at hb; cases hb
  have hbb : b ∉ bs := fun e => by rw [g.rows b e] at hb; cases hb
  refine ⟨s _ _ g.at_, by rw [upd_same, List.map_append]; rfl, fun c hc => ?_, ?_, fun z => ?_, g.new, fun c hc => ?_, fun c o e => ?_⟩
  · rcases List.mem_append.mp hc with z | z
    · rw [upd_ne (fun e => g.out (by rw [← e]; exact z))]; exact s _ _ (g.rows c z)
    · have := List.mem_singleton.mp z; subst this
      rw [upd_ne hab]; exact hr
  · rw [List.nodup_append]
    exact ⟨g.nd, by simp, fun x hx y hy => by have := List.mem_singleton.mp hy; subst this; exact fun e => hbb (by rw [← e]; exact hx)⟩
  · rcases List.mem_append.mp z with z | z
    · exact g.out z
    · exact hab (List.mem_singleton.mp z).symm
  · rcases List.mem_append.mp hc with z | z
    · exact g.news c z
    · have := List.mem_singleton.mp z; subst this
      cases q : H0 c with
      | none => rfl
      | some o => rw [g.same _ _ q] at hb; cases hb
  · rw [upd_ne (fun z => by subst z; rw [g.new] at e; cases e)]
    exact s _ _ (g.same _ _ e)
theorem GrUp.all {H0 H : Hp} {a : Addr} {bs : List Addr} {n : Nat} (g : GrUp H0 H a bs n) (hl : bs.length = n) : GrAt H0 H a bs n fun _ _ => false :=
  ⟨g.at_, hl, fun w b e => g.rows b (List.mem_of_getElem? e), g.nd, g.out, g.new, g.news, g.same⟩
/-! ### what is filled in so far, in the order of the walk -/
def ordC (n w r : Nat) : Nat := (n - 1 - w) * n + (n - 1 - r)
def GkF (T : Nat → Nat → Bool) (n k w r : Nat) : Bool := decide (ordC n w r < k) && finF T n w r
theorem ord_inj {n x y x' y' : Nat} (hy : y < n) (hy' : y' < n) (h : x * n + y = x' * n + y') : x = x' ∧ y = y' := by
  have e1 : (x * n + y) / n = x := by rw [Nat.mul_comm, Nat.mul_add_div (by omega), Nat.div_eq_of_lt hy]; rfl
  have e2 : (x' * n + y') / n = x' := by rw [Nat.mul_comm, Nat.mul_add_div (by omega), Nat.div_eq_of_lt hy']; rfl
  have : x = x' := by rw [← e1, ← e2, h]
  subst this
  exact ⟨rfl, by omega⟩
theorem ordC_at {n i j : Nat} (hi : i < n) (hj : j < n) : ordC n (n - 1 - i) (n - 1 - j) = i * n + j := by
  unfold ordC
  rw [show n - 1 - (n - 1 - i) = i by omega, show n - 1 - (n - 1 - j) = j by omega]
theorem GkF_zero {T : Nat → Nat → Bool} {n w r : Nat} : GkF T n 0 w r = false := by unfold GkF; simp
theorem GkF_all {T : Nat → Nat → Bool} {n w r : Nat} (hw : w < n) (hr : r < n) : GkF T n (n * n) w r = finF T n w r := by
  unfold GkF ordC
  have : (n - 1 - w) * n + (n - 1 - r) < n * n := by
    have h1 : (n - 1 - w) * n ≤ (n - 1) * n := Nat.mul_le_mul_right n (by omega)
    have h2 : (n - 1) * n + n = n * n := by
      have : n = (n - 1) + 1 := by omega
      calc (n - 1) * n + n = (n - 1 + 1) * n := by rw [Nat.add_mul, Nat.one_mul]
        _ = n * n := by rw [← this]
    omega
  rw [decide_eq_true this]; rfl
/-- one cell more -/
theorem GkF_step {T : Nat → Nat → Bool} {n i j : Nat} (hi : i < n) (hj : j < n) {w' r' : Nat} (hw : w' < n) (hr : r' < n) :
    GkF T n (i * n + j + 1) w' r' = if w' = n - 1 - i ∧ r' = n - 1 - j then finF T n (n - 1 - i) (n - 1 - j) else GkF T n (i * n + j) w' r' := by
  by_cases e : w' = n - 1 - i ∧ r' = n - 1 - j
  · rw [if_pos e, e.1, e.2]
    unfold GkF
    rw [ordC_at hi hj, decide_eq_true (by omega)]; rfl
  · rw [if_neg e]
    unfold GkF
    have : ordC n w' r' ≠ i * n + j := fun q => by
      unfold ordC at q
      obtain ⟨e1, e2⟩ := ord_inj (by omega) hj q
      exact e ⟨by omega, by omega⟩
    congr 1
    rw [decide_eq_decide]
    omega
theorem GkF_right {T : Nat → Nat → Bool} {n i j : Nat} (hi : i < n) (hj : j < n) (h : n - 1 - j + 1 < n) : GkF T n (i * n + j) (n - 1 - i) (n - 1 - j + 1) = finF T n (n - 1 - i) (n - 1 - j + 1) := by
  unfold GkF
  have : ordC n (n - 1 - i) (n - 1 - j + 1) < i * n + j := by
    rw [show n - 1 - j + 1 = n - 1 - (j - 1) by omega, ordC_at hi (by omega)]
    omega
  rw [decide_eq_true this]; rfl
theorem GkF_down {T : Nat → Nat → Bool} {n i j : Nat} (hi : i < n) (hj : j < n) (h : n - 1 - i + 1 < n) : GkF T n (i * n + j) (n - 1 - i + 1) (n - 1 - j) = finF T n (n - 1 - i + 1) (n - 1 - j) := by
  unfold GkF
  have : ordC n (n - 1 - i + 1) (n - 1 - j) < i * n + j := by
    rw [show n - 1 - i + 1 = n - 1 - (i - 1) by omega, ordC_at (by omega) hj]
    have : i * n = (i - 1) * n + n := by
      have q : i = (i - 1) + 1 := by omega
      calc i * n = (i - 1 + 1) * n := by rw [← q]
        _ = (i - 1) * n + n := by rw [Nat.add_mul, Nat.one_mul]
    omega
  rw [decide_eq_true this]; rfl
/-- the value of a cell -/
theorem finF_cell {T : Nat → Nat → Bool} {n w r : Nat} (hw : w < n) (hr : r < n) : finF T n w r = (T w r && (decide (w = n - 1 ∧ r = n - 1) || (decide (r + 1 < n) && finF T n w (r + 1)) || (decide (w + 1 < n) && finF T n (w + 1) r))) := by
  rw [finF, if_pos ⟨hw, hr⟩]
/-! ### a def that reads a table and makes one -/
section
variable {K : PySem.W.Frag} {mg : Str → Option Value} {Hs H : Hp}
theorem bls_rep : ∀ {vs : List V} {bs : List Bool}, Reps K mg Hs vs (bs.map D.bl) → vs = bs.map V.bl
  | _, [], .nil => rfl
  | _, b :: bs, .cons q r => by cases q; rw [bls_rep r]; rfl
theorem reps_bls : ∀ {bs : List Bool}, Reps K mg Hs (bs.map V.bl) (bs.map D.bl)
  | [] => .nil
  | b :: bs => .cons .bl reps_bls
theorem tab_of {v : V} {r0 : RV} {n : Nat} {T : Nat → Nat → Bool} (w : Own K mg Hs H v r0) (s : Same Hs H) (e : r0.fz = .lst (gridD n T)) : TabAt H v n T := by
  obtain ⟨p, ys, rfl, hp, r⟩ := own_lst w s e
  refine ⟨p, ys, rfl, hp, by rw [r.length]; simp [gridD], fun w hw => ?_⟩
  have e1 : (gridD n T)[w]? = some (.lst ((List.range n).map fun r => D.bl (T w r))) := by
    unfold gridD
    rw [List.getElem?_map, List.getElem?_range hw]; rfl
  obtain ⟨v, h1, h2⟩ := r.get e1
  cases h2 with
  | lst q rs =>
    refine ⟨_, h1, ?_⟩
    rw [show ((List.range n).map fun r => D.bl (T w r)) = ((List.range n).map (T w)).map D.bl by rw [List.map_map]; rfl] at rs
    rw [s _ _ q, bls_rep rs, List.map_map]; rfl
theorem spD_grid {vs : List V} {Q : VK} {E : XK} (h : spD K mg dn_finishing_pairs vs H Q E) :
    ∃ v n T, vs = [v] ∧ TabAt H v n T ∧ 0 < n ∧ n ≤ 1000 ∧ ∀ H' a bs, GrAt H H' a bs n (finF T n) → Q (.ref a) H' := by
  obtain ⟨Hs, rvs, Kq, ok, ⟨r0, n, T, rfl, ef, h0, h1, hk⟩, h⟩ := h
  have hl := ok.len
  match vs, hl with
  | [v], _ =>
    obtain ⟨v', e, w⟩ := ok.at_ 0 r0 rfl
    cases e
    refine ⟨v, n, T, rfl, tab_of w ok.sub ef, h0, h1, fun H' a bs g => ?_⟩
    classical
    let Hs' : Hp := fun b => if b ∈ bs then H' b else Hs b
    have s1 : Same Hs Hs' := fun b o e => by
      have : b ∉ bs := fun z => by have := g.news b z; rw [ok.sub _ _ e] at this; cases this
      show (if b ∈ bs then H' b else Hs b) = _
      rw [if_neg this]; exact e
    have s2 : Same Hs' H' := fun b o e => by
      have e : (if b ∈ bs then H' b else Hs b) = some o := e
      by_cases z : b ∈ bs
      · rw [if_pos z] at e; exact e
      · rw [if_neg z] at e; exact g.same _ _ (ok.sub _ _ e)
    have t : Mp.T (fun _ => False) Hs H Hs' H' := Mp.T.new s1 g.same fun b e => by
      by_cases z : b ∈ bs
      · exact .inr (g.news b z)
      · exact .inl (by have e : (if b ∈ bs then H' b else Hs b) ≠ none := e; rw [if_neg z] at e; exact e)
    have ok' := ok.keep t s2 fun _ f => f.elim
    refine h _ _ hk (.ref a) Hs' H' (t.mono fun _ f => f.elim) ok' Sub.refl ⟨a, bs.map V.ref, rfl, g.at_, ?_, ?_⟩ fun _ b e => by cases e; exact g.new
    · show (if a ∈ bs then H' a else Hs a) = none
      rw [if_neg g.out]
      cases q : Hs a with
      | none => rfl
      | some o => have := ok.sub _ _ q; rw [g.new] at this; cases this
    · have key : ∀ (l : List Addr) (i : Nat), (∀ k b, l[k]? = some b → bs[i + k]? = some b) → Reps K mg Hs' (l.map V.ref) ((List.range' i l.length).map fun w => D.lst ((List.range n).map fun r => .bl (finF T n w r))) := by
        intro l
        induction l with
        | nil => intro i _; exact .nil
        | cons b l ih =>
          intro i hl
          have hb : bs[i]? = some b := hl 0 b rfl
          refine .cons (.lst (vs := rowV n (finF T n i)) ?_ ?_) (ih (i + 1) fun k c e => by have := hl (k + 1) c e; rw [← this]; congr 1; omega)
          · show (if b ∈ bs then H' b else Hs b) = _
            rw [if_pos (List.mem_of_getElem? hb)]
            exact g.rows i b hb
          · have := reps_bls (K := K) (mg := mg) (Hs := Hs') (bs := (List.range n).map (finF T n i))
            rw [List.map_map, List.map_map] at this
            exact this
      have := key bs 0 fun k b e => by rw [Nat.zero_add]; exact e
      rw [g.len] at this
      unfold gridD
      rw [show (List.range n).map (fun w => D.lst ((List.range n).map fun r => D.bl (finF T n w r))) = (List.range' 0 n).map (fun w => D.lst ((List.range n).map fun r => D.bl (finF T n w r))) by rw [← List.range_eq_range']]
      exact this
end
theorem ixN_nat {m R : Nat} (h : R < m) : ixN m (R : Int) = some R := by
  unfold ixN
  rw [if_pos (by omega), if_pos (by omega)]; simp
theorem repl_bl {n : Nat} {b : Bool} : (List.replicate (n : Int).toNat [V.bl b]).flatten = rowV n fun _ => b := by
  rw [show (n : Int).toNat = n from rfl]
  induction n with
  | zero => rfl
  | succ n ih =>
    rw [List.replicate_succ, List.flatten_cons, ih]
    show [V.bl b] ++ rowV n _ = rowV (n + 1) _
    simp [rowV, List.map_const', List.replicate_succ]
/-! ### expressions that change nothing -/
def Ev (t : TE) (σ : L2.St) (H : Hp) (v : V) : Prop := ∀ Q : VK, Q v H → t σ H Q
def EvT (t : TT) (σ : L2.St) (H : Hp) (b : Bool) : Prop := ∀ Q : Bool → Hp → Prop, Q b H → t σ H Q
section
variable {σ : L2.St} {H : Hp} {ta tb : TE} {t u : TT}
theorem Ev.var {i : Nat} {v : V} (h : σ[i]? = some (some v)) : Ev (tVar i) σ H v := fun _ q => ⟨v, h, q⟩
theorem Ev.c {v : V} : Ev (tC v) σ H v := fun _ q => q
theorem Ev.op {g : Int → Int → V} {i j : Int} (a : Ev ta σ H (.int i)) (b : Ev tb σ H (.int j)) : Ev (tOp (rI0 g) ta tb) σ H (g i j) := fun _ q => a _ (b _ ⟨i, j, rfl, rfl, q⟩)
theorem Ev.opC {C : Int → Int → Prop} {g : Int → Int → V} {i j : Int} (a : Ev ta σ H (.int i)) (b : Ev tb σ H (.int j)) (hc : C i j) : Ev (tOp (rI C g) ta tb) σ H (g i j) := fun _ q => a _ (b _ ⟨i, j, rfl, rfl, hc, q⟩)
theorem Ev.eqI {i j : Int} {k : Bool} (a : Ev ta σ H (.int i)) (b : Ev tb σ H (.int j)) (hk : k = decide (i = j)) : Ev (tOp rEq ta tb) σ H (.bl k) := fun _ q => a _ (b _ ⟨rfl, by rw [show decide (V.int i = V.int j) = k by rw [hk, dec_int]; rfl]; exact q⟩)
theorem Ev.ix {K : PySem.W.Frag} {p : Addr} {xs : List V} {i : Nat} {v : V} (a : Ev ta σ H (.ref p)) (b : Ev tb σ H (.int (i : Nat))) (h : H p = some (.lst xs)) (e : xs[i]? = some v) : Ev (tOp (rIxL K) ta tb) σ H v := fun _ q => a _ (b _ ⟨p, xs, _, v, rfl, rfl, SqL.of h, atI_nat e, q⟩)
theorem Ev.lt {i j : Nat} (a : Ev ta σ H (.int (i : Nat))) (b : Ev tb σ H (.int (j : Nat))) : Ev (tOp (rI0 fun i j => .bl (decide (i < j))) ta tb) σ H (.bl (decide (i < j))) := fun Q q => a _ (b _ ⟨_, _, rfl, rfl, by show Q (V.bl (decide ((i : Int) < (j : Int)))) _; rw [show decide ((i : Int) < (j : Int)) = decide (i < j) by rw [decide_eq_decide]; omega]; exact q⟩)
theorem Ev.and {k l : Bool} (a : Ev ta σ H (.bl k)) (b : k = true → Ev tb σ H (.bl l)) : Ev (tAndV ta tb) σ H (.bl (k && l)) := fun Q q => a _ ⟨k, rfl, by
  cases k with
  | true => exact b rfl _ q
  | false => exact q⟩
theorem Ev.or {k l : Bool} (a : Ev ta σ H (.bl k)) (b : k = false → Ev tb σ H (.bl l)) : Ev (tOrV ta tb) σ H (.bl (k || l)) := fun Q q => a _ ⟨k, rfl, by
  cases k with
  | true => exact q
  | false => exact b rfl _ q⟩
theorem EvT.and {k l : Bool} (a : EvT t σ H k) (b : k = true → EvT u σ H l) : EvT (tAnd t u) σ H (k && l) := fun Q q => a _ (by
  cases k with
  | true => exact b rfl _ q
  | false => exact q)
theorem EvT.or {k l : Bool} (a : EvT t σ H k) (b : k = false → EvT u σ H l) : EvT (tOr t u) σ H (k || l) := fun Q q => a _ (by
  cases k with
  | true => exact q
  | false => exact b rfl _ q)
theorem EvT.val {k : Bool} (a : Ev ta σ H (.bl k)) : EvT (tB ta) σ H k := fun Q q => a _ ⟨k, rfl, q⟩
theorem EvT.tst {k : Bool} (a : Ev ta σ H (.bl k)) : EvT (tTest ta) σ H k := fun Q q => a _ ⟨k, rfl, q⟩
end
end Mp
namespace Mp
open PySem PySem.Spec PyProof.Rows L2
/-! ### the changes between two shapes, plainly -/
def kindC (a b : Str) : List Str := if a = b then [] else if a = Str.ofString "text" ∨ b = Str.ofString "text" then [Str.ofString "swap"] else if a = Str.ofString "signed" ∨ b = Str.ofString "signed" then [Str.ofString "recode"] else if a = Str.ofString "small" then [Str.ofString "widen"] else [Str.ofString "narrow"]
noncomputable def preC (a b : D) : List Str := if isN a = true then (if isN b = true then [] else [Str.ofString "ease"]) else if isN b = true then [Str.ofString "need"] else if a = b then [] else [Str.ofString "preset"]
noncomputable def keptC (f g : Fld) : List Str := preC f.pre g.pre ++ kindC f.kind g.kind
def leftC (f : Fld) : Str := if isN f.pre = true then Str.ofString "drop" else Str.ofString "retire"
def comeC (f : Fld) : Str := if isN f.pre = true then Str.ofString "add" else Str.ofString "offer"
noncomputable def fieldC : Option Fld → Option Fld → List Str
  | none, none => []
  | none, some g => [comeC g]
  | some f, none => [leftC f]
  | some f, some g => if f.name = g.name then keptC f g else [leftC f, comeC g, Str.ofString "reuse"]
theorem fieldC_ss (f g : Fld) : fieldC (some f) (some g) = if f.name = g.name then keptC f g else [leftC f, comeC g, Str.ofString "reuse"] := rfl
def look (A : List Fld) (n : Int) : Option Fld := A.find? fun f => decide (f.num = n)
def moveP (A B : List Fld) (n : Int) : Prop := ∃ a ∈ A, ∃ b ∈ B, a.name = b.name ∧ b.num = n ∧ a.num ≠ n
def Has (A B : List Fld) (c : Str) (n : Int) : Prop := c ∈ fieldC (look A n) (look B n) ∨ (c = Str.ofString "move" ∧ moveP A B n)
def Bd (bad : List Str) (A B : List Fld) : Prop := ∃ c n, Has A B c n ∧ c ∈ bad
def CHGS : List Str := ["add", "offer", "drop", "retire", "need", "ease", "preset", "widen", "narrow", "recode", "swap", "reuse", "move"]
def BACKS : List Str := ["add", "need", "preset", "narrow", "recode", "swap", "reuse", "move"]
def AHEADS : List Str := ["drop", "ease", "preset", "widen", "recode", "swap", "reuse", "move"]
def hb (bad l : List Str) : Bool := l.any fun c => decide (c ∈ bad)
theorem hb_iff {bad l : List Str} : hb bad l = true ↔ ∃ c ∈ l, c ∈ bad := by simp [hb]
theorem hb_app (bad l m : List Str) : hb bad (l ++ m) = (hb bad l || hb bad m) := List.any_append
theorem look_some {A : List Fld} {n : Int} {f : Fld} (h : look A n = some f) : f ∈ A ∧ f.num = n := by
  unfold look at h
  exact ⟨List.mem_of_find?_eq_some h, by simpa using List.find?_some h⟩
theorem look_of {A : List Fld} {f : Fld} (nd : (A.map Fld.num).Nodup) (h : f ∈ A) : look A f.num = some f := by
  induction A with
  | nil => cases h
  | cons a A ih =>
    rw [List.map_cons, List.nodup_cons] at nd
    unfold look
    rw [List.find?_cons]
    rcases List.mem_cons.mp h with rfl | h
    · simp
    · have : a.num ≠ f.num := fun e => nd.1 (List.mem_map.mpr ⟨f, h, e.symm⟩)
      rw [decide_eq_false this]
      exact ih nd.2 h
theorem look_none {A : List Fld} {n : Int} (h : look A n = none) : ∀ f ∈ A, f.num ≠ n := fun f hf e => by
  have := List.find?_eq_none.mp h f hf
  simp [e] at this
theorem look_perm {A B : List Fld} (nd : (A.map Fld.num).Nodup) (p : B.Perm A) (n : Int) : look B n = look A n := by
  have nd' : (B.map Fld.num).Nodup := (p.map Fld.num).nodup_iff.mpr nd
  cases h : look A n with
  | some f =>
    obtain ⟨h1, h2⟩ := look_some h
    rw [← h2]; exact look_of nd' (p.symm.subset h1)
  | none =>
    cases h' : look B n with
    | none => rfl
    | some f =>
      obtain ⟨h1, h2⟩ := look_some h'
      exact absurd h2 (look_none h f (p.subset h1))
theorem Has_perm {A B A' B' : List Fld} (nd : (A.map Fld.num).Nodup) (nd' : (B.map Fld.num).Nodup) (p : A'.Perm A) (p' : B'.Perm B) (c : Str) (n : Int) : Has A' B' c n ↔ Has A B c n := by
  have m : moveP A' B' n ↔ moveP A B n := ⟨fun ⟨a, ha, b, hb, h⟩ => ⟨a, p.subset ha, b, p'.subset hb, h⟩, fun ⟨a, ha, b, hb, h⟩ => ⟨a, p.symm.subset ha, b, p'.symm.subset hb, h⟩⟩
  unfold Has
  rw [look_perm nd p, look_perm nd' p', m]
theorem Bd_perm {bad : List Str} {A B A' B' : List Fld} (nd : (A.map Fld.num).Nodup) (nd' : (B.map Fld.num).Nodup) (p : A'.Perm A) (p' : B'.Perm B) : Bd bad A' B' ↔ Bd bad A B := by
  unfold Bd
  constructor
  · rintro ⟨c, n, h, hc⟩; exact ⟨c, n, (Has_perm nd nd' p p' c n).mp h, hc⟩
  · rintro ⟨c, n, h, hc⟩; exact ⟨c, n, (Has_perm nd nd' p p' c n).mpr h, hc⟩
theorem kind_sym {a b : Str} (ha : kindOk a) (hb' : kindOk b) : hb BACKS (kindC a b) = hb AHEADS (kindC b a) := by
  rcases ha with rfl | rfl | rfl | rfl <;> rcases hb' with rfl | rfl | rfl | rfl <;> decide +kernel
theorem pre_sym (a b : D) : hb BACKS (preC a b) = hb AHEADS (preC b a) := by
  unfold preC
  cases isN a <;> cases isN b
  · simp only [Bool.false_eq_true, if_false]
    by_cases h : a = b
    · rw [if_pos h, if_pos h.symm]; rfl
    · rw [if_neg h, if_neg fun e => h e.symm]; decide +kernel
  · simp only [Bool.false_eq_true, if_false, if_true]; decide +kernel
  · simp only [Bool.false_eq_true, if_false, if_true]; decide +kernel
  · simp only [if_true]; rfl
theorem lc_sym (f : Fld) : hb BACKS [comeC f] = hb AHEADS [leftC f] ∧ hb BACKS [leftC f] = hb AHEADS [comeC f] := by
  unfold leftC comeC
  cases isN f.pre
  · simp only [Bool.false_eq_true, if_false]; exact ⟨by decide +kernel, by decide +kernel⟩
  · simp only [if_true]; exact ⟨by decide +kernel, by decide +kernel⟩
theorem field_sym {x y : Option Fld} (hx : ∀ f, x = some f → FOk f) (hy : ∀ f, y = some f → FOk f) : hb BACKS (fieldC x y) = hb AHEADS (fieldC y x) := by
  cases x with
  | none => cases y with
    | none => rfl
    | some g => exact (lc_sym g).1
  | some f => cases y with
    | none => exact (lc_sym f).2
    | some g =>
      rw [fieldC_ss, fieldC_ss]
      by_cases h : f.name = g.name
      · rw [if_pos h, if_pos h.symm]
        unfold keptC
        rw [hb_app, hb_app, pre_sym, kind_sym (hx f rfl).k (hy g rfl).k]
      · rw [if_neg h, if_neg fun e => h e.symm]
        have e1 : ∀ a b c : Str, ∀ bad, hb bad [a, b, c] = (hb bad [a] || hb bad [b] || hb bad [c]) := fun a b c bad => by simp [hb, Bool.or_assoc]
        have e2 : hb BACKS [Str.ofString "reuse"] = true := by decide +kernel
        have e3 : hb AHEADS [Str.ofString "reuse"] = true := by decide +kernel
        rw [e1, e1, e2, e3, Bool.or_true, Bool.or_true]
theorem Bd_iff (bad : List Str) (hm : Str.ofString "move" ∈ bad) (A B : List Fld) : Bd bad A B ↔ (∃ n, hb bad (fieldC (look A n) (look B n)) = true) ∨ ∃ n, moveP A B n := by
  constructor
  · rintro ⟨c, n, h | ⟨rfl, h⟩, hc⟩
    · exact .inl ⟨n, hb_iff.mpr ⟨c, h, hc⟩⟩
    · exact .inr ⟨n, h⟩
  · rintro (⟨n, h⟩ | ⟨n, h⟩)
    · obtain ⟨c, h1, h2⟩ := hb_iff.mp h
      exact ⟨c, n, .inl h1, h2⟩
    · exact ⟨_, n, .inr ⟨rfl, h⟩, hm⟩
theorem Bd_sym {A B : List Fld} (hA : ∀ f ∈ A, FOk f) (hB : ∀ f ∈ B, FOk f) : Bd BACKS A B ↔ Bd AHEADS B A := by
  rw [Bd_iff BACKS (by decide +kernel), Bd_iff AHEADS (by decide +kernel)]
  have e : ∀ n, hb BACKS (fieldC (look A n) (look B n)) = hb AHEADS (fieldC (look B n) (look A n)) := fun n => field_sym (fun f h => hA f (look_some h).1) (fun f h => hB f (look_some h).1)
  have m : (∃ n, moveP A B n) ↔ ∃ n, moveP B A n := by
    have : ∀ A B, (∃ n, moveP A B n) → ∃ n, moveP B A n := fun A B ⟨n, a, ha, b, hb, h1, h2, h3⟩ => ⟨a.num, b, hb, a, ha, h1.symm, rfl, fun e => h3 (by rw [← e, h2])⟩
    exact ⟨this A B, this B A⟩
  rw [m]
  simp only [e]
/-- every change is listed -/
theorem Has_chg {A B : List Fld} {c : Str} {n : Int} (h : Has A B c n) : c ∈ CHGS := by
  rcases h with h | ⟨rfl, _⟩
  · have k : ∀ a b : Str, ∀ c ∈ kindC a b, c ∈ CHGS := fun a b c h => by
      unfold kindC at h
      split at h
      · cases h
      · split at h
        · rw [List.mem_singleton.mp h]; decide +kernel
        · split at h
          · rw [List.mem_singleton.mp h]; decide +kernel
          · split at h <;> (rw [List.mem_singleton.mp h]; decide +kernel)
    have p : ∀ a b : D, ∀ c ∈ preC a b, c ∈ CHGS := fun a b c h => by
      unfold preC at h
      split at h
      · split at h
        · cases h
        · rw [List.mem_singleton.mp h]; decide +kernel
      · split at h
        · rw [List.mem_singleton.mp h]; decide +kernel
        · split at h
          · cases h
          · rw [List.mem_singleton.mp h]; decide +kernel
    have l : ∀ f, leftC f ∈ CHGS := fun f => by unfold leftC; split <;> decide +kernel
    have m : ∀ f, comeC f ∈ CHGS := fun f => by unfold comeC; split <;> decide +kernel
    cases hx : look A n with
    | none => cases hy : look B n with
      | none => rw [hx, hy] at h; cases h
      | some g => rw [hx, hy] at h; rw [List.mem_singleton.mp h]; exact m g
    | some f => cases hy : look B n with
      | none => rw [hx, hy] at h; rw [List.mem_singleton.mp h]; exact l f
      | some g =>
        rw [hx, hy, fieldC_ss] at h
        split at h
        · rcases List.mem_append.mp h with h | h
          · exact p _ _ c h
          · exact k _ _ c h
        · simp only [List.mem_cons, List.not_mem_nil, or_false] at h
          rcases h with rfl | rfl | rfl
          · exact l f
          · exact m g
          · decide +kernel
  · decide +kernel
section
variable {A B : Prop} {b : Bool}
theorem ite_b1 (h : b = true) (k : A) : if b = true then A else B := by rw [if_pos h]; exact k
theorem ite_b0 (h : b = false) (k : B) : if b = true then A else B := by rw [if_neg (by rw [h]; decide)]; exact k
theorem ite_n1 (h : b = true) (k : B) : if (!b) = true then A else B := by rw [if_neg (by rw [h]; decide)]; exact k
theorem ite_n0 (h : b = false) (k : A) : if (!b) = true then A else B := by rw [if_pos (by rw [h]; rfl)]; exact k
theorem ite_c1 (h : b = true) (k : B) : if b = false then A else B := by rw [if_neg (by rw [h]; decide)]; exact k
theorem ite_c0 (h : b = false) (k : A) : if b = false then A else B := by rw [if_pos h]; exact k
end
end Mp
namespace Mp
open PySem PySem.Spec PyProof.Rows L2
abbrev cv_Kind_ALL : Den := funD (gVal [("Kind", cd_Kind_ALL)])
abbrev cv_Kind_TEXT : Den := funD (gVal [("Kind", cd_Kind_TEXT)])
abbrev cv_Kind_SMALL : Den := funD (gVal [("Kind", cd_Kind_SMALL)])
abbrev cv_Kind_WHOLE : Den := funD (gVal [("Kind", cd_Kind_WHOLE)])
abbrev cv_Kind_SIGNED : Den := funD (gVal [("Kind", cd_Kind_SIGNED)])
abbrev at_number : Den := funD (gAttr ["Field"] "number")
abbrev at_name : Den := funD (gAttr ["Field"] "name")
abbrev at_fields : Den := funD (gAttr ["Edition"] "fields")
abbrev at_preset : Den := funD (gAttr ["Field"] "preset")
abbrev at_kind : Den := funD (gAttr ["Field"] "kind")
abbrev at_steps : Den := funD (gAttr ["Plan"] "steps")
abbrev at_cells : Den := funD (gAttr ["Plan"] "cells")
def N_law_deck : List Str := ["_law_script", "_law_at", "_law_cell"]
def P_law_deck : List Str := ["_law_script", "_law_at"]
def ss_law_deck : SSs := (.cons (.assign 2 (.ite (.prim (.cmp .Lt) (funD gLt) (.cons (.var 1) (.cons (.prim (.call "len") (funD gLen) (.cons (.var 0) .nil)) .nil))) (.prim (.call "int") (funD gInt) (.cons (.prim .sub (funD gIxA) (.cons (.var 0) (.cons (.var 1) .nil))) .nil)) (.lit (.int 0)))) (.cons (.ret (.lst (.cons (.ite (.prim (.cmp .GtE) (funD gGe) (.cons (.prim (.call "abs") (funD gAbs) (.cons (.var 2) .nil)) (.cons (.prim (.bin .Pow) (funD gPow) (.cons (.lit (.int 10)) (.cons (.lit (.int 18)) .nil))) .nil))) (.prim (.call "abs") (funD gAbs) (.cons (.var 2) .nil)) (.lit (.int 0))) (.cons (.prim (.bin .Mod) (funD gMod) (.cons (.var 2) (.cons (.lit (.int 2305843009213693951)) .nil))) (.cons (.var 1) (.cons (.lit (.int 0)) .nil)))))) .nil))
def dn_law_deck : Den := denF 2 3 ss_law_deck
def N_law_draw : List Str := ["_law_deck_here", "_law_many", "_law_digit", "_law_mixed"]
def P_law_draw : List Str := ["_law_deck_here", "_law_many"]
def ss_law_draw : SSs := (.cons (.ifs (.prim (.cmp .Gt) (funD gGt) (.cons (.prim .sub (funD gIxA) (.cons (.var 0) (.cons (.lit (.int 0)) .nil))) (.cons (.lit (.int 0)) .nil))) (.cons (.assign 2 (.prim (.bin .Mod) (funD gMod) (.cons (.prim (.call "int") (funD gInt) (.cons (.prim .sub (funD gIxA) (.cons (.var 0) (.cons (.lit (.int 0)) .nil))) .nil)) (.cons (.var 1) .nil)))) (.cons (.setsub 0 (.lit (.int 0)) (.prim (.bin .FloorDiv) (funD gFdiv) (.cons (.prim .sub (funD gIxA) (.cons (.var 0) (.cons (.lit (.int 0)) .nil))) (.cons (.var 1) .nil)))) (.cons (.ret (.var 2)) .nil))) .nil) (.cons (.setsub 0 (.lit (.int 3)) (.prim (.bin .Add) (funD gAdd) (.cons (.prim .sub (funD gIxA) (.cons (.var 0) (.cons (.lit (.int 3)) .nil))) (.cons (.lit (.int 1)) .nil)))) (.cons (.ifs (.prim (.cmp .Eq) (funD gEq) (.cons (.prim .sub (funD gIxA) (.cons (.var 0) (.cons (.lit (.int 1)) .nil))) (.cons (.lit (.int 0)) .nil))) (.cons (.ret (.prim (.bin .Mod) (funD gMod) (.cons (.prim (.call "int") (funD gInt) (.cons (.prim (.bin .Add) (funD gAdd) (.cons (.prim .sub (funD gIxA) (.cons (.var 0) (.cons (.lit (.int 3)) .nil))) (.cons (.prim .sub (funD gIxA) (.cons (.var 0) (.cons (.lit (.int 2)) .nil))) .nil))) .nil)) (.cons (.var 1) .nil)))) .nil) .nil) (.cons (.assign 3 (.prim (.bin .Mod) (funD gMod) (.cons (.prim (.call "int") (funD gInt) (.cons (.prim (.bin .Pow) (funD gPow) (.cons (.prim (.bin .Add) (funD gAdd) (.cons (.prim (.bin .Add) (funD gAdd) (.cons (.prim .sub (funD gIxA) (.cons (.var 0) (.cons (.lit (.int 1)) .nil))) (.cons (.prim (.bin .Mult) (funD gMul) (.cons (.lit (.int 7368787)) (.cons (.prim .sub (funD gIxA) (.cons (.var 0) (.cons (.lit (.int 3)) .nil))) .nil))) .nil))) (.cons (.prim (.bin .Mult) (funD gMul) (.cons (.lit (.int 104729)) (.cons (.prim .sub (funD gIxA) (.cons (.var 0) (.cons (.lit (.int 2)) .nil))) .nil))) .nil))) (.cons (.lit (.int 3)) .nil))) .nil)) (.cons (.lit (.int 2305843009213693951)) .nil)))) (.cons (.assign 3 (.prim (.bin .Mod) (funD gMod) (.cons (.prim (.call "int") (funD gInt) (.cons (.prim (.bin .Pow) (funD gPow) (.cons (.prim (.bin .Add) (funD gAdd) (.cons (.prim (.bin .Add) (funD gAdd) (.cons (.var 3) (.cons (.prim (.bin .Mult) (funD gMul) (.cons (.lit (.int 15485863)) (.cons (.prim .sub (funD gIxA) (.cons (.var 0) (.cons (.lit (.int 3)) .nil))) .nil))) .nil))) (.cons (.lit (.int 611953)) .nil))) (.cons (.lit (.int 2)) .nil))) .nil)) (.cons (.lit (.int 1152921504606846883)) .nil)))) (.cons (.ret (.prim (.bin .Mod) (funD gMod) (.cons (.prim (.call "int") (funD gInt) (.cons (.prim (.bin .FloorDiv) (funD gFdiv) (.cons (.var 3) (.cons (.lit (.int 4093)) .nil))) .nil)) (.cons (.var 1) .nil)))) .nil))))))
def dn_law_draw : Den := denF 2 4 ss_law_draw
def N_law_pick : List Str := ["_law_deck_here", "_law_some"]
def P_law_pick : List Str := ["_law_deck_here", "_law_some"]
def ss_law_pick : SSs := (.cons (.ret (.prim .sub (funD gIxA) (.cons (.var 1) (.cons (.prim (.call "_law_draw") dn_law_draw (.cons (.var 0) (.cons (.prim (.call "len") (funD gLen) (.cons (.var 1) .nil)) .nil))) .nil)))) .nil)
def dn_law_pick : Den := denF 2 2 ss_law_pick
def N_law_word : List Str := ["_law_deck_here", "_law_turn"]
def P_law_word : List Str := ["_law_deck_here"]
def ss_law_word : SSs := (.cons (.ret (.meth isStr "join" (funD gJoin) (.lit (.str "")) (.cons (.lc [1] (.name 1) (.rng1 (.prim (.bin .Add) (funD gAdd) (.cons (.lit (.int 1)) (.cons (.prim (.call "_law_draw") dn_law_draw (.cons (.var 0) (.cons (.lit (.int 12)) .nil))) .nil)))) .nil (.prim (.call "_law_pick") dn_law_pick (.cons (.var 0) (.cons (.lit (.str "abcdefghijklmnopqrstuvwxyz")) .nil)))) .nil))) .nil)
def dn_law_word : Den := denF 1 2 ss_law_word
def N_law_pool : List Str := ["_law_deck_here", "_law_word_here", "_law_names", "_law_sign"]
def P_law_pool : List Str := ["_law_deck_here"]
def ss_law_pool : SSs := (.cons (.assign 1 (.slice (funD (gSl false true)) (.prim (.call "_law_word") dn_law_word (.cons (.var 0) .nil)) .nil (.cons (.lit (.int 11)) .nil))) (.cons (.assign 2 (.ite (.prim (.cmp .Eq) (funD gEq) (.cons (.prim (.call "_law_draw") dn_law_draw (.cons (.var 0) (.cons (.lit (.int 2)) .nil))) (.cons (.lit (.int 0)) .nil))) (.lc [3] (.name 3) (.val (.lit (.str "abz"))) .nil (.prim (.bin .Add) (funD gAdd) (.cons (.var 1) (.cons (.var 3) .nil)))) (.lc [3] (.name 3) (.val (.lit (.str "amz"))) .nil (.prim (.bin .Add) (funD gAdd) (.cons (.var 3) (.cons (.var 1) .nil)))))) (.cons (.ret (.tup (.cons (.lst (.cons (.prim (.bin .Add) (funD gAdd) (.cons (.lit (.int 1)) (.cons (.prim (.call "_law_draw") dn_law_draw (.cons (.var 0) (.cons (.lit (.int 3)) .nil))) .nil))) (.cons (.prim (.bin .Add) (funD gAdd) (.cons (.lit (.int 10)) (.cons (.prim (.call "_law_draw") dn_law_draw (.cons (.var 0) (.cons (.lit (.int 90)) .nil))) .nil))) (.cons (.prim (.bin .Sub) (funD gSub2) (.cons (.lit (.int 999999)) (.cons (.prim (.call "_law_draw") dn_law_draw (.cons (.var 0) (.cons (.lit (.int 3)) .nil))) .nil))) .nil)))) (.cons (.var 2) .nil)))) .nil)))
def dn_law_pool : Den := denF 1 4 ss_law_pool
def N_law_field : List Str := ["_law_deck_here", "_law_number", "_law_name", "_law_kind", "_law_presets"]
def P_law_field : List Str := ["_law_deck_here", "_law_number", "_law_name"]
def ss_law_field : SSs := (.cons (.assign 3 (.prim (.call "_law_pick") dn_law_pick (.cons (.var 0) (.cons (.lst (.cons (.lit (.str "small")) (.cons (.lit (.str "whole")) (.cons (.lit (.str "signed")) (.cons (.lit (.str "text")) .nil))))) .nil)))) (.cons (.assign 4 (.dct (.cons (.lit (.str "small")) (.cons (.lst (.cons (.lit (.int 0)) (.cons (.lit (.int 1)) (.cons (.lit (.int 255)) .nil)))) (.cons (.lit (.str "whole")) (.cons (.lst (.cons (.lit (.int 0)) (.cons (.lit (.int 1)) (.cons (.prim (.bin .Pow) (funD gPow) (.cons (.lit (.int 10)) (.cons (.lit (.int 18)) .nil))) .nil)))) (.cons (.lit (.str "signed")) (.cons (.lst (.cons (.lit (.int 0)) (.cons (.lit (.int 1)) (.cons (.prim (.un .USub) (funD gNeg) (.cons (.lit (.int 1)) .nil)) .nil)))) (.cons (.lit (.str "text")) (.cons (.lst (.cons (.lit (.str "")) (.cons (.lit (.str "1")) (.cons (.lit (.str "a b")) .nil)))) .nil)))))))))) (.cons (.ret (.tup (.cons (.var 1) (.cons (.var 2) (.cons (.var 3) (.cons (.ite (.prim (.cmp .Eq) (funD gEq) (.cons (.prim (.call "_law_draw") dn_law_draw (.cons (.var 0) (.cons (.lit (.int 2)) .nil))) (.cons (.lit (.int 1)) .nil))) (.prim (.call "_law_pick") dn_law_pick (.cons (.var 0) (.cons (.prim .sub (funD gIxA) (.cons (.var 4) (.cons (.var 3) .nil))) .nil))) (.lit .non)) .nil)))))) .nil)))
def dn_law_field : Den := denF 3 5 ss_law_field
def N_law_start : List Str := ["_law_deck_here", "_law_pool_here", "_law_names", "_law_found", "_law_number"]
def P_law_start : List Str := ["_law_deck_here", "_law_pool_here"]
def ss_law_start : SSs := (.cons (.parO true [2, 3] (.cons (.prim (.call "list") (funD gList) (.cons (.prim .sub (funD gIxA) (.cons (.var 1) (.cons (.lit (.int 1)) .nil))) .nil)) (.cons (.lst .nil) .nil))) (.cons (.for_ (.name 4) (.val (.prim .sub (funD gIxA) (.cons (.var 1) (.cons (.lit (.int 0)) .nil)))) (.cons (.ifs (.prim (.cmp .Eq) (funD gEq) (.cons (.prim (.call "_law_draw") dn_law_draw (.cons (.var 0) (.cons (.lit (.int 2)) .nil))) (.cons (.lit (.int 1)) .nil))) (.cons (.expr (.meth isLst "append" dAppend (.var 3) (.cons (.frzv (.prim (.call "_law_field") dn_law_field (.cons (.var 0) (.cons (.var 4) (.cons (.meth isLst "pop" dPopAt (.var 2) (.cons (.prim (.call "_law_draw") dn_law_draw (.cons (.var 0) (.cons (.prim (.call "len") (funD gLen) (.cons (.var 2) .nil)) .nil))) .nil)) .nil))))) .nil))) .nil) .nil) .nil)) (.cons (.ret (.var 3)) .nil)))
def dn_law_start : Den := denF 2 5 ss_law_start
def N_law_next : List Str := ["_law_deck_here", "_law_shape", "_law_pool_here", "_law_number", "_law_way", "_law_old", "_law_row", "_law_rest", "_law_free", "_law_name", "_law_worth"]
def P_law_next : List Str := ["_law_deck_here", "_law_shape", "_law_pool_here"]
def ss_law_next : SSs := (.cons (.parO false [3, 4] (.cons (.prim (.call "_law_pick") dn_law_pick (.cons (.var 0) (.cons (.prim .sub (funD gIxA) (.cons (.var 2) (.cons (.lit (.int 0)) .nil))) .nil))) (.cons (.prim (.call "_law_draw") dn_law_draw (.cons (.var 0) (.cons (.lit (.int 7)) .nil))) .nil))) (.cons (.assign 5 (.lc [6] (.name 6) (.val (.var 1)) (.cons (.prim (.cmp .Eq) (funD gEq) (.cons (.prim .sub (funD gIxA) (.cons (.var 6) (.cons (.lit (.int 0)) .nil))) (.cons (.var 3) .nil))) .nil) (.var 6))) (.cons (.assign 7 (.lc [6] (.name 6) (.val (.var 1)) (.cons (.prim (.cmp .NotEq) (funD gNe) (.cons (.prim .sub (funD gIxA) (.cons (.var 6) (.cons (.lit (.int 0)) .nil))) (.cons (.var 3) .nil))) .nil) (.var 6))) (.cons (.assign 8 (.lc [9] (.name 9) (.val (.prim .sub (funD gIxA) (.cons (.var 2) (.cons (.lit (.int 1)) .nil)))) (.cons (.prim (.cmp .NotIn) (funD gNin) (.cons (.var 9) (.cons (.lc [6] (.name 6) (.val (.var 7)) .nil (.prim .sub (funD gIxA) (.cons (.var 6) (.cons (.lit (.int 1)) .nil)))) .nil))) .nil) (.var 9))) (.cons (.ifs (.prim (.cmp .Eq) (funD gEq) (.cons (.var 4) (.cons (.lit (.int 0)) .nil))) (.cons (.ret (.prim (.call "list") (funD gList) (.cons (.var 1) .nil))) .nil) .nil) (.cons (.ifs (.prim (.cmp .Eq) (funD gEq) (.cons (.var 4) (.cons (.lit (.int 1)) .nil))) (.cons (.ret (.var 7)) .nil) .nil) (.cons (.ifs (.prim (.cmp .Eq) (funD gEq) (.cons (.var 4) (.cons (.lit (.int 2)) .nil))) (.cons (.ret (.prim (.call "_law_start") dn_law_start (.cons (.var 0) (.cons (.var 2) .nil)))) .nil) .nil) (.cons (.ifs (.boolv false (.cons (.notv (.var 5)) (.cons (.prim (.cmp .Eq) (funD gEq) (.cons (.var 4) (.cons (.lit (.int 3)) .nil))) .nil))) (.cons (.ret (.prim (.bin .Add) (funD gAdd) (.cons (.var 7) (.cons (.lst (.cons (.prim (.call "_law_field") dn_law_field (.cons (.var 0) (.cons (.var 3) (.cons (.prim (.call "_law_pick") dn_law_pick (.cons (.var 0) (.cons (.var 8) .nil))) .nil)))) .nil)) .nil)))) .nil) .nil) (.cons (.ifs (.prim (.cmp .Eq) (funD gEq) (.cons (.var 4) (.cons (.lit (.int 4)) .nil))) (.cons (.ret (.prim (.bin .Add) (funD gAdd) (.cons (.var 7) (.cons (.lst (.cons (.prim (.call "_law_field") dn_law_field (.cons (.var 0) (.cons (.var 3) (.cons (.prim .sub (funD gIxA) (.cons (.prim .sub (funD gIxA) (.cons (.var 5) (.cons (.lit (.int 0)) .nil))) (.cons (.lit (.int 1)) .nil))) .nil)))) .nil)) .nil)))) .nil) .nil) (.cons (.assign 10 (.ite (.prim (.cmp .Eq) (funD gEq) (.cons (.prim .sub (funD gIxA) (.cons (.prim .sub (funD gIxA) (.cons (.var 5) (.cons (.lit (.int 0)) .nil))) (.cons (.lit (.int 2)) .nil))) (.cons (.lit (.str "text")) .nil))) (.lit (.str "")) (.lit (.int 0)))) (.cons (.ret (.prim (.bin .Add) (funD gAdd) (.cons (.var 7) (.cons (.lst (.cons (.tup (.cons (.var 3) (.cons (.prim .sub (funD gIxA) (.cons (.prim .sub (funD gIxA) (.cons (.var 5) (.cons (.lit (.int 0)) .nil))) (.cons (.lit (.int 1)) .nil))) (.cons (.prim .sub (funD gIxA) (.cons (.prim .sub (funD gIxA) (.cons (.var 5) (.cons (.lit (.int 0)) .nil))) (.cons (.lit (.int 2)) .nil))) (.cons (.ite (.prim (.cmp .Is) (funD gIsN) (.cons (.prim .sub (funD gIxA) (.cons (.prim .sub (funD gIxA) (.cons (.var 5) (.cons (.lit (.int 0)) .nil))) (.cons (.lit (.int 3)) .nil))) (.cons (.lit .non) .nil))) (.var 10) (.lit .non)) .nil))))) .nil)) .nil)))) .nil)))))))))))
def dn_law_next : Den := denF 3 11 ss_law_next
def N_law_chain : List Str := ["_law_deck_here", "_law_pool_here", "_law_many", "_law_shapes", "_law_turn"]
def P_law_chain : List Str := ["_law_deck_here", "_law_pool_here", "_law_many"]
def ss_law_chain : SSs := (.cons (.assign 3 (.lst (.cons (.prim (.call "_law_start") dn_law_start (.cons (.var 0) (.cons (.var 1) .nil))) .nil))) (.cons (.for_ (.name 4) (.rng1 (.prim (.bin .Sub) (funD gSub2) (.cons (.var 2) (.cons (.lit (.int 1)) .nil)))) (.cons (.expr (.meth isLst "append" dAppend (.var 3) (.cons (.frzv (.prim (.call "_law_next") dn_law_next (.cons (.var 0) (.cons (.prim .sub (funD gIxA) (.cons (.var 3) (.cons (.prim (.un .USub) (funD gNeg) (.cons (.lit (.int 1)) .nil)) .nil))) (.cons (.var 1) .nil))))) .nil))) .nil)) (.cons (.ret (.var 3)) .nil)))
def dn_law_chain : Den := denF 3 5 ss_law_chain
def N_is_integer : List Str := ["value"]
def P_is_integer : List Str := ["value"]
def ss_is_integer : SSs := (.cons (.ret (.boolv true (.cons (.prim (.call "isinstance") (funD (gIsi tb_isi)) (.cons (.var 0) (.cons (.glo "int" (.ty "int")) .nil))) (.cons (.notv (.prim (.call "isinstance") (funD (gIsi tb_isi)) (.cons (.var 0) (.cons (.glo "bool" (.ty "bool")) .nil)))) .nil)))) .nil)
def dn_is_integer : Den := denF 1 1 ss_is_integer
def N_is_word : List Str := ["value", "letter"]
def P_is_word : List Str := ["value"]
def ss_is_word : SSs := (.cons (.ifs (.boolv false (.cons (.notv (.prim (.call "isinstance") (funD (gIsi tb_isi)) (.cons (.var 0) (.cons (.glo "str" (.ty "str")) .nil)))) (.cons (.notv (.chain .LtE (funD gLe) .LtE (funD gLe) (.lit (.int 1)) (.prim (.call "len") (funD gLen) (.cons (.var 0) .nil)) (.lit (.int 12)))) .nil))) (.cons (.ret (.lit (.bl false))) .nil) .nil) (.cons (.ret (.prim (.call "all") (funD gAll) (.cons (.lc [1] (.name 1) (.val (.var 0)) .nil (.prim (.cmp .In) (funD gIn) (.cons (.var 1) (.cons (.glo "LETTERS" c_LETTERS) .nil)))) .nil))) .nil))
def dn_is_word : Den := denF 1 2 ss_is_word
def N_Kind_holds : List Str := ["kind", "value"]
def P_Kind_holds : List Str := ["kind", "value"]
def ss_Kind_holds : SSs := (.cons (.ifs (.prim (.cmp .Eq) (funD gEq) (.cons (.var 0) (.cons (.prim (.attr "TEXT") cv_Kind_TEXT (.cons (.glo "Kind" (.glo "Kind")) .nil)) .nil))) (.cons (.ret (.boolv true (.cons (.prim (.call "isinstance") (funD (gIsi tb_isi)) (.cons (.var 1) (.cons (.glo "str" (.ty "str")) .nil))) (.cons (.prim (.cmp .LtE) (funD gLe) (.cons (.prim (.call "len") (funD gLen) (.cons (.var 1) .nil)) (.cons (.glo "MOST_CHARACTERS" c_MOST_CHARACTERS) .nil))) .nil)))) .nil) .nil) (.cons (.ifs (.notv (.prim (.call "is_integer") dn_is_integer (.cons (.var 1) .nil))) (.cons (.ret (.lit (.bl false))) .nil) .nil) (.cons (.ifs (.prim (.cmp .Eq) (funD gEq) (.cons (.var 0) (.cons (.prim (.attr "SMALL") cv_Kind_SMALL (.cons (.glo "Kind" (.glo "Kind")) .nil)) .nil))) (.cons (.ret (.chain .LtE (funD gLe) .LtE (funD gLe) (.lit (.int 0)) (.var 1) (.lit (.int 255)))) .nil) .nil) (.cons (.ifs (.prim (.cmp .Eq) (funD gEq) (.cons (.var 0) (.cons (.prim (.attr "WHOLE") cv_Kind_WHOLE (.cons (.glo "Kind" (.glo "Kind")) .nil)) .nil))) (.cons (.ret (.chain .LtE (funD gLe) .LtE (funD gLe) (.lit (.int 0)) (.var 1) (.glo "TOP" c_TOP))) .nil) .nil) (.cons (.ret (.chain .LtE (funD gLe) .LtE (funD gLe) (.prim (.un .USub) (funD gNeg) (.cons (.glo "TOP" c_TOP) .nil)) (.var 1) (.glo "TOP" c_TOP))) .nil)))))
def dn_Kind_holds : Den := denF 2 2 ss_Kind_holds
def N_Field_init : List Str := ["self", "number", "name", "kind", "preset"]
def P_Field_init : List Str := ["self", "number", "name", "kind", "preset"]
def ss_Field_init : SSs := (.cons (.ifs (.boolv false (.cons (.notv (.prim (.call "is_integer") dn_is_integer (.cons (.var 1) .nil))) (.cons (.notv (.chain .LtE (funD gLe) .LtE (funD gLe) (.lit (.int 1)) (.var 1) (.glo "GREATEST_NUMBER" c_GREATEST_NUMBER))) .nil))) (.cons .never .nil) .nil) (.cons (.ifs (.notv (.prim (.call "is_word") dn_is_word (.cons (.var 2) .nil))) (.cons .never .nil) .nil) (.cons (.ifs (.boolv false (.cons (.notv (.prim (.call "isinstance") (funD (gIsi tb_isi)) (.cons (.var 3) (.cons (.glo "str" (.ty "str")) .nil)))) (.cons (.prim (.cmp .NotIn) (funD gNin) (.cons (.var 3) (.cons (.prim (.attr "ALL") cv_Kind_ALL (.cons (.glo "Kind" (.glo "Kind")) .nil)) .nil))) .nil))) (.cons .never .nil) .nil) (.cons (.ifs (.boolv true (.cons (.prim (.cmp .IsNot) (funD gNotN) (.cons (.var 4) (.cons (.lit .non) .nil))) (.cons (.notv (.meth (isGlo "Kind") "holds" (tailD dn_Kind_holds) (.glo "Kind" (.glo "Kind")) (.cons (.var 3) (.cons (.var 4) .nil)))) .nil))) (.cons .never .nil) .nil) (.cons (.setattr "Field" 0 "number" (.var 1)) (.cons (.setattr "Field" 0 "name" (.var 2)) (.cons (.setattr "Field" 0 "kind" (.var 3)) (.cons (.setattr "Field" 0 "preset" (.var 4)) .nil))))))))
def dn_Field_init : Den := denF 5 5 ss_Field_init
def N_clashes : List Str := ["rows", "field", "row"]
def P_clashes : List Str := ["rows", "field"]
def ss_clashes : SSs := (.cons (.ret (.prim (.call "any") (funD gAny) (.cons (.lc [2] (.name 2) (.val (.var 0)) .nil (.boolv false (.cons (.prim (.cmp .Eq) (funD gEq) (.cons (.prim (.attr "number") at_number (.cons (.var 2) .nil)) (.cons (.prim (.attr "number") at_number (.cons (.var 1) .nil)) .nil))) (.cons (.prim (.cmp .Eq) (funD gEq) (.cons (.prim (.attr "name") at_name (.cons (.var 2) .nil)) (.cons (.prim (.attr "name") at_name (.cons (.var 1) .nil)) .nil))) .nil)))) .nil))) .nil)
def dn_clashes : Den := denF 2 3 ss_clashes
def N_inserted : List Str := ["rows", "field", "lower", "row"]
def P_inserted : List Str := ["rows", "field"]
def ss_inserted : SSs := (.cons (.assign 2 (.lc [3] (.name 3) (.val (.var 0)) (.cons (.prim (.cmp .Lt) (funD gLt) (.cons (.prim (.attr "number") at_number (.cons (.var 3) .nil)) (.cons (.prim (.attr "number") at_number (.cons (.var 1) .nil)) .nil))) .nil) (.var 3))) (.cons (.ret (.lst (.star (.var 2) (.cons (.var 1) (.star (.slice (funD (gSl true false)) (.var 0) (.cons (.prim (.call "len") (funD gLen) (.cons (.var 2) .nil)) .nil) .nil) .nil))))) .nil))
def dn_inserted : Den := denF 2 4 ss_inserted
def N_Edition_init : List Str := ["self", "fields", "rows", "place", "field"]
def P_Edition_init : List Str := ["self", "fields"]
def ss_Edition_init : SSs := (.cons (.assign 2 (.lst .nil)) (.cons (.for_ (.tup [3, 4]) (.enm (.prim (.call "list") (funD gList) (.cons (.var 1) .nil))) (.cons (.ifs (.boolv false (.cons (.prim (.cmp .Eq) (funD gEq) (.cons (.var 3) (.cons (.glo "MOST_FIELDS" c_MOST_FIELDS) .nil))) (.cons (.notv (.prim (.call "isinstance") (funD (gIsi tb_isi)) (.cons (.var 4) (.cons (.glo "Field" (.glo "Field")) .nil)))) (.cons (.prim (.call "clashes") dn_clashes (.cons (.var 2) (.cons (.var 4) .nil))) .nil)))) (.cons .never .nil) .nil) (.cons (.assign 2 (.prim (.call "inserted") dn_inserted (.cons (.var 2) (.cons (.var 4) .nil)))) .nil))) (.cons (.setattr "Edition" 0 "fields" (.prim (.call "tuple") (funD gTuple) (.cons (.var 2) .nil))) .nil)))
def dn_Edition_init : Den := denF 2 5 ss_Edition_init
def N_law_edition : List Str := ["_law_shape", "_law_row"]
def P_law_edition : List Str := ["_law_shape"]
def ss_law_edition : SSs := (.cons (.ret (.prim (.call "Edition") (mkD "Edition" dn_Edition_init) (.cons (.lc [1] (.name 1) (.val (.var 0)) .nil (.prim (.call "Field") (mkD "Field" dn_Field_init) (.cons (.prim .sub (funD gIxA) (.cons (.var 1) (.cons (.lit (.int 0)) .nil))) (.cons (.prim .sub (funD gIxA) (.cons (.var 1) (.cons (.lit (.int 1)) .nil))) (.cons (.prim .sub (funD gIxA) (.cons (.var 1) (.cons (.lit (.int 2)) .nil))) (.cons (.prim .sub (funD gIxA) (.cons (.var 1) (.cons (.lit (.int 3)) .nil))) .nil)))))) .nil))) .nil)
def dn_law_edition : Den := denF 1 2 ss_law_edition
def N_by_number : List Str := ["edition", "field"]
def P_by_number : List Str := ["edition"]
def ss_by_number : SSs := (.cons (.ret (.dc [1] (.name 1) (.val (.prim (.attr "fields") at_fields (.cons (.var 0) .nil))) .nil (.prim (.attr "number") at_number (.cons (.var 1) .nil)) (.var 1))) .nil)
def dn_by_number : Den := denF 1 2 ss_by_number
def N_moved : List Str := ["elder", "newer", "places", "field"]
def P_moved : List Str := ["elder", "newer"]
def ss_moved : SSs := (.cons (.assign 2 (.dc [3] (.name 3) (.val (.prim (.attr "fields") at_fields (.cons (.var 0) .nil))) .nil (.prim (.attr "name") at_name (.cons (.var 3) .nil)) (.prim (.attr "number") at_number (.cons (.var 3) .nil)))) (.cons (.ret (.lc [3] (.name 3) (.val (.prim (.attr "fields") at_fields (.cons (.var 1) .nil))) (.cons (.prim (.cmp .NotEq) (funD gNe) (.cons (.meth isDic "get" dGet2 (.var 2) (.cons (.frzv (.prim (.attr "name") at_name (.cons (.var 3) .nil))) (.cons (.frzv (.prim (.attr "number") at_number (.cons (.var 3) .nil))) .nil))) (.cons (.prim (.attr "number") at_number (.cons (.var 3) .nil)) .nil))) .nil) (.prim (.attr "number") at_number (.cons (.var 3) .nil)))) .nil))
def dn_moved : Den := denF 2 4 ss_moved
def N_come : List Str := ["field"]
def P_come : List Str := ["field"]
def ss_come : SSs := (.cons (.ret (.ite (.prim (.cmp .Is) (funD gIsN) (.cons (.prim (.attr "preset") at_preset (.cons (.var 0) .nil)) (.cons (.lit .non) .nil))) (.lit (.str "add")) (.lit (.str "offer")))) .nil)
def dn_come : Den := denF 1 1 ss_come
def N_left : List Str := ["field"]
def P_left : List Str := ["field"]
def ss_left : SSs := (.cons (.ret (.ite (.prim (.cmp .Is) (funD gIsN) (.cons (.prim (.attr "preset") at_preset (.cons (.var 0) .nil)) (.cons (.lit .non) .nil))) (.lit (.str "drop")) (.lit (.str "retire")))) .nil)
def dn_left : Den := denF 1 1 ss_left
def N_kind_changes : List Str := ["elder", "newer"]
def P_kind_changes : List Str := ["elder", "newer"]
def ss_kind_changes : SSs := (.cons (.ifs (.prim (.cmp .Eq) (funD gEq) (.cons (.var 0) (.cons (.var 1) .nil))) (.cons (.ret (.lst .nil)) .nil) .nil) (.cons (.ifs (.boolv false (.cons (.prim (.cmp .Eq) (funD gEq) (.cons (.var 0) (.cons (.prim (.attr "TEXT") cv_Kind_TEXT (.cons (.glo "Kind" (.glo "Kind")) .nil)) .nil))) (.cons (.prim (.cmp .Eq) (funD gEq) (.cons (.var 1) (.cons (.prim (.attr "TEXT") cv_Kind_TEXT (.cons (.glo "Kind" (.glo "Kind")) .nil)) .nil))) .nil))) (.cons (.ret (.lst (.cons (.lit (.str "swap")) .nil))) .nil) .nil) (.cons (.ifs (.boolv false (.cons (.prim (.cmp .Eq) (funD gEq) (.cons (.var 0) (.cons (.prim (.attr "SIGNED") cv_Kind_SIGNED (.cons (.glo "Kind" (.glo "Kind")) .nil)) .nil))) (.cons (.prim (.cmp .Eq) (funD gEq) (.cons (.var 1) (.cons (.prim (.attr "SIGNED") cv_Kind_SIGNED (.cons (.glo "Kind" (.glo "Kind")) .nil)) .nil))) .nil))) (.cons (.ret (.lst (.cons (.lit (.str "recode")) .nil))) .nil) .nil) (.cons (.ret (.ite (.prim (.cmp .Eq) (funD gEq) (.cons (.var 0) (.cons (.prim (.attr "SMALL") cv_Kind_SMALL (.cons (.glo "Kind" (.glo "Kind")) .nil)) .nil))) (.lst (.cons (.lit (.str "widen")) .nil)) (.lst (.cons (.lit (.str "narrow")) .nil)))) .nil))))
def dn_kind_changes : Den := denF 2 2 ss_kind_changes
def N_kept_changes : List Str := ["elder", "newer", "found"]
def P_kept_changes : List Str := ["elder", "newer"]
def ss_kept_changes : SSs := (.cons (.assign 2 (.lst .nil)) (.cons (.ifs (.boolv true (.cons (.prim (.cmp .IsNot) (funD gNotN) (.cons (.prim (.attr "preset") at_preset (.cons (.var 0) .nil)) (.cons (.lit .non) .nil))) (.cons (.prim (.cmp .Is) (funD gIsN) (.cons (.prim (.attr "preset") at_preset (.cons (.var 1) .nil)) (.cons (.lit .non) .nil))) .nil))) (.cons (.expr (.meth isLst "append" dAppend (.var 2) (.cons (.frzv (.lit (.str "need"))) .nil))) .nil) .nil) (.cons (.ifs (.boolv true (.cons (.prim (.cmp .Is) (funD gIsN) (.cons (.prim (.attr "preset") at_preset (.cons (.var 0) .nil)) (.cons (.lit .non) .nil))) (.cons (.prim (.cmp .IsNot) (funD gNotN) (.cons (.prim (.attr "preset") at_preset (.cons (.var 1) .nil)) (.cons (.lit .non) .nil))) .nil))) (.cons (.expr (.meth isLst "append" dAppend (.var 2) (.cons (.frzv (.lit (.str "ease"))) .nil))) .nil) .nil) (.cons (.ifs (.boolv true (.cons (.prim (.cmp .IsNot) (funD gNotN) (.cons (.prim (.attr "preset") at_preset (.cons (.var 0) .nil)) (.cons (.lit .non) .nil))) (.cons (.prim (.cmp .IsNot) (funD gNotN) (.cons (.prim (.attr "preset") at_preset (.cons (.var 1) .nil)) (.cons (.lit .non) .nil))) (.cons (.prim (.cmp .NotEq) (funD gNe) (.cons (.prim (.attr "preset") at_preset (.cons (.var 0) .nil)) (.cons (.prim (.attr "preset") at_preset (.cons (.var 1) .nil)) .nil))) .nil)))) (.cons (.expr (.meth isLst "append" dAppend (.var 2) (.cons (.frzv (.lit (.str "preset"))) .nil))) .nil) .nil) (.cons (.ret (.prim (.bin .Add) (funD gAdd) (.cons (.var 2) (.cons (.prim (.call "kind_changes") dn_kind_changes (.cons (.prim (.attr "kind") at_kind (.cons (.var 0) .nil)) (.cons (.prim (.attr "kind") at_kind (.cons (.var 1) .nil)) .nil))) .nil)))) .nil)))))
def dn_kept_changes : Den := denF 2 3 ss_kept_changes
def N_field_changes : List Str := ["elder", "newer"]
def P_field_changes : List Str := ["elder", "newer"]
def ss_field_changes : SSs := (.cons (.ifs (.prim (.cmp .Is) (funD gIsN) (.cons (.var 0) (.cons (.lit .non) .nil))) (.cons (.ret (.ite (.prim (.cmp .Is) (funD gIsN) (.cons (.var 1) (.cons (.lit .non) .nil))) (.lst .nil) (.lst (.cons (.prim (.call "come") dn_come (.cons (.var 1) .nil)) .nil)))) .nil) .nil) (.cons (.ifs (.prim (.cmp .Is) (funD gIsN) (.cons (.var 1) (.cons (.lit .non) .nil))) (.cons (.ret (.lst (.cons (.prim (.call "left") dn_left (.cons (.var 0) .nil)) .nil))) .nil) .nil) (.cons (.ifs (.prim (.cmp .Eq) (funD gEq) (.cons (.prim (.attr "name") at_name (.cons (.var 0) .nil)) (.cons (.prim (.attr "name") at_name (.cons (.var 1) .nil)) .nil))) (.cons (.ret (.prim (.call "kept_changes") dn_kept_changes (.cons (.var 0) (.cons (.var 1) .nil)))) .nil) .nil) (.cons (.ret (.lst (.cons (.prim (.call "left") dn_left (.cons (.var 0) .nil)) (.cons (.prim (.call "come") dn_come (.cons (.var 1) .nil)) (.cons (.lit (.str "reuse")) .nil))))) .nil))))
def dn_field_changes : Den := denF 2 2 ss_field_changes
def N_changes : List Str := ["elder", "newer", "before", "behind", "found", "number", "change", "pair"]
def P_changes : List Str := ["elder", "newer"]
def ss_changes : SSs := (.cons (.assign 2 (.prim (.call "by_number") dn_by_number (.cons (.var 0) .nil))) (.cons (.assign 3 (.prim (.call "by_number") dn_by_number (.cons (.var 1) .nil))) (.cons (.assign 4 (.lc [5] (.name 5) (.val (.prim (.call "moved") dn_moved (.cons (.var 0) (.cons (.var 1) .nil)))) .nil (.tup (.cons (.lit (.str "move")) (.cons (.var 5) .nil))))) (.cons (.for_ (.name 5) (.val (.prim (.call "sorted") dSorted (.cons (.lc [5] (.name 5) (.val (.star2 (.var 2) (.var 3))) .nil (.prim (.call "int") (funD gInt) (.cons (.var 5) .nil))) .nil))) (.cons (.for_ (.name 6) (.val (.prim (.call "field_changes") dn_field_changes (.cons (.meth isDic "get" (funD gGet1) (.var 2) (.cons (.var 5) .nil)) (.cons (.meth isDic "get" (funD gGet1) (.var 3) (.cons (.var 5) .nil)) .nil)))) (.cons (.expr (.meth isLst "append" dAppend (.var 4) (.cons (.frzv (.tup (.cons (.var 6) (.cons (.var 5) .nil)))) .nil))) .nil)) .nil)) (.cons (.ret (.lc2 [6, 7] [7] (.name 6) (.val (.glo "CHANGES" c_CHANGES)) .nil (.name 7) (.val (.var 4)) (.cons (.prim (.cmp .Eq) (funD gEq) (.cons (.prim .sub (funD gIxA) (.cons (.var 7) (.cons (.lit (.int 0)) .nil))) (.cons (.var 6) .nil))) .nil) (.var 7))) .nil)))))
def dn_changes : Den := denF 2 8 ss_changes
def N_reads : List Str := ["writer", "reader", "change", "number"]
def P_reads : List Str := ["writer", "reader"]
def ss_reads : SSs := (.cons (.ret (.notv (.prim (.call "any") (funD gAny) (.cons (.lc [2, 3] (.tup [2, 3]) (.val (.prim (.call "changes") dn_changes (.cons (.var 0) (.cons (.var 1) .nil)))) .nil (.prim (.cmp .In) (funD gIn) (.cons (.var 2) (.cons (.glo "BACK" c_BACK) .nil)))) .nil)))) .nil)
def dn_reads : Den := denF 2 4 ss_reads
def N_good_pairs : List Str := ["row", "stored", "table", "reader", "writer", "w", "r"]
def P_good_pairs : List Str := ["row", "stored"]
def ss_good_pairs : SSs := (.cons (.assign 2 (.lc [4] (.name 4) (.slot 0) .nil (.lc [3] (.name 3) (.slot 0) .nil (.prim (.call "reads") dn_reads (.cons (.var 4) (.cons (.var 3) .nil)))))) (.cons (.ifs (.var 1) (.cons (.for_ (.name 5) (.rng2 (.lit (.int 1)) (.prim (.call "len") (funD gLen) (.cons (.var 0) .nil))) (.cons (.setsub 2 (.var 5) (.lc [6] (.name 6) (.rng1 (.prim (.call "len") (funD gLen) (.cons (.var 0) .nil))) .nil (.boolv true (.cons (.prim .sub (funD gIxA) (.cons (.prim .sub (funD gIxA) (.cons (.var 2) (.cons (.var 5) .nil))) (.cons (.var 6) .nil))) (.cons (.prim .sub (funD gIxA) (.cons (.prim .sub (funD gIxA) (.cons (.var 2) (.cons (.prim (.bin .Sub) (funD gSub2) (.cons (.var 5) (.cons (.lit (.int 1)) .nil))) .nil))) (.cons (.var 6) .nil))) .nil))))) .nil)) .nil) .nil) (.cons (.ret (.var 2)) .nil)))
def dn_good_pairs : Den := denF 2 7 ss_good_pairs
def N_finishing_pairs : List Str := ["table", "many", "found", "_", "w", "r", "goes_on"]
def P_finishing_pairs : List Str := ["table"]
-- dn_finishing_pairs by hand
def N_first_steps : List Str := ["finishing", "many", "w", "r", "steps"]
def P_first_steps : List Str := ["finishing"]
def ss_first_steps : SSs := (.cons (.assign 1 (.prim (.call "len") (funD gLen) (.cons (.var 0) .nil))) (.cons (.assign 2 (.lit (.int 0))) (.cons (.assign 3 (.lit (.int 0))) (.cons (.assign 4 (.lst .nil)) (.cons (.while_ (.prim (.cmp .Lt) (funD gLt) (.cons (.prim (.bin .Add) (funD gAdd) (.cons (.var 2) (.cons (.var 3) .nil))) (.cons (.prim (.bin .Sub) (funD gSub2) (.cons (.prim (.bin .Mult) (funD gMul) (.cons (.lit (.int 2)) (.cons (.var 1) .nil))) (.cons (.lit (.int 2)) .nil))) .nil))) (.cons (.ifs (.boolv true (.cons (.prim (.cmp .Lt) (funD gLt) (.cons (.prim (.bin .Add) (funD gAdd) (.cons (.var 3) (.cons (.lit (.int 1)) .nil))) (.cons (.var 1) .nil))) (.cons (.prim .sub (funD gIxA) (.cons (.prim .sub (funD gIxA) (.cons (.var 0) (.cons (.var 2) .nil))) (.cons (.prim (.bin .Add) (funD gAdd) (.cons (.var 3) (.cons (.lit (.int 1)) .nil))) .nil))) .nil))) (.cons (.expr (.meth isLst "append" dAppend (.var 4) (.cons (.frzv (.lit (.str "r"))) .nil))) (.cons (.aug 3 .Add (funD gAddI) (.lit (.int 1))) .nil)) (.cons (.expr (.meth isLst "append" dAppend (.var 4) (.cons (.frzv (.lit (.str "w"))) .nil))) (.cons (.aug 2 .Add (funD gAddI) (.lit (.int 1))) .nil))) .nil)) (.cons (.ret (.meth isStr "join" (funD gJoin) (.lit (.str "")) (.cons (.var 4) .nil))) .nil))))))
def dn_first_steps : Den := denF 1 5 ss_first_steps
def N_Plan_init : List Str := ["self", "steps", "cells"]
def P_Plan_init : List Str := ["self", "steps", "cells"]
def ss_Plan_init : SSs := (.cons (.setattr "Plan" 0 "steps" (.var 1)) (.cons (.setattr "Plan" 0 "cells" (.var 2)) .nil))
def dn_Plan_init : Den := denF 3 3 ss_Plan_init
def N_reached_pairs : List Str := ["table", "cells", "w", "r", "is_next"]
def P_reached_pairs : List Str := ["table"]
def ss_reached_pairs : SSs := (.cons (.assign 1 (.lst .nil)) (.cons (.for_ (.name 2) (.rng1 (.prim (.call "len") (funD gLen) (.cons (.var 0) .nil))) (.cons (.for_ (.name 3) (.rng1 (.prim (.call "len") (funD gLen) (.cons (.var 0) .nil))) (.cons (.assign 4 (.boolv false (.cons (.prim (.cmp .In) (funD gIn) (.cons (.tup (.cons (.prim (.bin .Sub) (funD gSub2) (.cons (.var 2) (.cons (.lit (.int 1)) .nil))) (.cons (.var 3) .nil))) (.cons (.var 1) .nil))) (.cons (.prim (.cmp .In) (funD gIn) (.cons (.tup (.cons (.var 2) (.cons (.prim (.bin .Sub) (funD gSub2) (.cons (.var 3) (.cons (.lit (.int 1)) .nil))) .nil))) (.cons (.var 1) .nil))) (.cons (.prim (.cmp .Eq) (funD gEq) (.cons (.prim (.bin .Add) (funD gAdd) (.cons (.var 2) (.cons (.var 3) .nil))) (.cons (.lit (.int 0)) .nil))) .nil))))) (.cons (.ifs (.boolv true (.cons (.prim .sub (funD gIxA) (.cons (.prim .sub (funD gIxA) (.cons (.var 0) (.cons (.var 2) .nil))) (.cons (.var 3) .nil))) (.cons (.var 4) .nil))) (.cons (.expr (.meth isLst "append" dAppend (.var 1) (.cons (.frzv (.tup (.cons (.var 2) (.cons (.var 3) .nil)))) .nil))) .nil) .nil) .nil))) .nil)) (.cons (.ret (.var 1)) .nil)))
def dn_reached_pairs : Den := denF 1 5 ss_reached_pairs
def N_plan : List Str := ["row", "stored", "table", "finishing"]
def P_plan : List Str := ["row", "stored"]
def ss_plan : SSs := (.cons (.assign 2 (.prim (.call "good_pairs") dn_good_pairs (.cons (.var 0) (.cons (.var 1) .nil)))) (.cons (.assign 3 (.prim (.call "finishing_pairs") dn_finishing_pairs (.cons (.var 2) .nil))) (.cons (.ifs (.prim .sub (funD gIxA) (.cons (.prim .sub (funD gIxA) (.cons (.var 3) (.cons (.lit (.int 0)) .nil))) (.cons (.lit (.int 0)) .nil))) (.cons (.ret (.prim (.call "Plan") (mkD "Plan" dn_Plan_init) (.cons (.prim (.call "first_steps") dn_first_steps (.cons (.var 3) .nil)) (.cons (.lit .non) .nil)))) .nil) .nil) (.cons (.ret (.prim (.call "Plan") (mkD "Plan" dn_Plan_init) (.cons (.lit .non) (.cons (.prim (.call "tuple") (funD gTuple) (.cons (.prim (.call "reached_pairs") dn_reached_pairs (.cons (.var 2) .nil)) .nil)) .nil)))) .nil))))
def dn_plan : Den := denF 2 4 ss_plan
def N_law_plan : List Str := ["_law_editions", "_law_is_stored"]
def P_law_plan : List Str := ["_law_editions", "_law_is_stored"]
def ss_law_plan : SSs := (.cons (.ret (.ite (.var 1) (.callk "plan" dn_plan (.cons (.var 0) .nil) ["stored"] (.cons (.lit (.bl true)) .nil)) (.prim (.call "plan") (addD [(.bl false)] dn_plan) (.cons (.var 0) .nil)))) .nil)
def dn_law_plan : Den := denF 2 2 ss_law_plan
def N_law_homes : List Str := ["_law_rows", "_law_at", "_law_homes_here", "_law_row"]
def P_law_homes : List Str := ["_law_rows", "_law_at"]
def ss_law_homes : SSs := (.cons (.assign 2 (.dct .nil)) (.cons (.for_ (.name 3) (.val (.var 0)) (.cons (.setsub 2 (.prim .sub (funD gIxA) (.cons (.var 3) (.cons (.var 1) .nil))) (.var 3)) .nil)) (.cons (.ret (.var 2)) .nil)))
def dn_law_homes : Den := denF 2 4 ss_law_homes
def N_law_kept : List Str := ["_law_old", "_law_new", "_law_found"]
def P_law_kept : List Str := ["_law_old", "_law_new"]
def ss_law_kept : SSs := (.cons (.assign 2 (.lst .nil)) (.cons (.ifs (.prim (.cmp .NotEq) (funD gNe) (.cons (.prim (.cmp .Is) (funD gIsN) (.cons (.prim .sub (funD gIxA) (.cons (.var 0) (.cons (.lit (.int 3)) .nil))) (.cons (.lit .non) .nil))) (.cons (.prim (.cmp .Is) (funD gIsN) (.cons (.prim .sub (funD gIxA) (.cons (.var 1) (.cons (.lit (.int 3)) .nil))) (.cons (.lit .non) .nil))) .nil))) (.cons (.expr (.meth isLst "append" dAppend (.var 2) (.cons (.frzv (.ite (.prim (.cmp .Is) (funD gIsN) (.cons (.prim .sub (funD gIxA) (.cons (.var 1) (.cons (.lit (.int 3)) .nil))) (.cons (.lit .non) .nil))) (.lit (.str "need")) (.lit (.str "ease")))) .nil))) .nil) (.cons (.ifs (.boolv true (.cons (.prim (.cmp .IsNot) (funD gNotN) (.cons (.prim .sub (funD gIxA) (.cons (.var 0) (.cons (.lit (.int 3)) .nil))) (.cons (.lit .non) .nil))) (.cons (.prim (.cmp .NotEq) (funD gNe) (.cons (.prim .sub (funD gIxA) (.cons (.var 0) (.cons (.lit (.int 3)) .nil))) (.cons (.prim .sub (funD gIxA) (.cons (.var 1) (.cons (.lit (.int 3)) .nil))) .nil))) .nil))) (.cons (.expr (.meth isLst "append" dAppend (.var 2) (.cons (.frzv (.lit (.str "preset"))) .nil))) .nil) .nil) .nil)) (.cons (.ifs (.prim (.cmp .NotEq) (funD gNe) (.cons (.prim .sub (funD gIxA) (.cons (.var 0) (.cons (.lit (.int 2)) .nil))) (.cons (.prim .sub (funD gIxA) (.cons (.var 1) (.cons (.lit (.int 2)) .nil))) .nil))) (.cons (.ifs (.prim (.cmp .In) (funD gIn) (.cons (.lit (.str "text")) (.cons (.lst (.cons (.prim .sub (funD gIxA) (.cons (.var 0) (.cons (.lit (.int 2)) .nil))) (.cons (.prim .sub (funD gIxA) (.cons (.var 1) (.cons (.lit (.int 2)) .nil))) .nil))) .nil))) (.cons (.expr (.meth isLst "append" dAppend (.var 2) (.cons (.frzv (.lit (.str "swap"))) .nil))) .nil) (.cons (.ifs (.prim (.cmp .In) (funD gIn) (.cons (.lit (.str "signed")) (.cons (.lst (.cons (.prim .sub (funD gIxA) (.cons (.var 0) (.cons (.lit (.int 2)) .nil))) (.cons (.prim .sub (funD gIxA) (.cons (.var 1) (.cons (.lit (.int 2)) .nil))) .nil))) .nil))) (.cons (.expr (.meth isLst "append" dAppend (.var 2) (.cons (.frzv (.lit (.str "recode"))) .nil))) .nil) (.cons (.expr (.meth isLst "append" dAppend (.var 2) (.cons (.frzv (.ite (.prim (.cmp .Eq) (funD gEq) (.cons (.prim .sub (funD gIxA) (.cons (.var 0) (.cons (.lit (.int 2)) .nil))) (.cons (.lit (.str "small")) .nil))) (.lit (.str "widen")) (.lit (.str "narrow")))) .nil))) .nil)) .nil)) .nil) .nil) (.cons (.ret (.var 2)) .nil))))
def dn_law_kept : Den := denF 2 3 ss_law_kept
def N_law_changes : List Str := ["_law_elder", "_law_newer", "_law_before", "_law_behind", "_law_names", "_law_found", "_law_row", "_law_name"]
def P_law_changes : List Str := ["_law_elder", "_law_newer"]
def ss_law_changes : SSs := (.cons (.parO false [2, 3, 4, 5] (.cons (.prim (.call "_law_homes") dn_law_homes (.cons (.var 0) (.cons (.lit (.int 0)) .nil))) (.cons (.prim (.call "_law_homes") dn_law_homes (.cons (.var 1) (.cons (.lit (.int 0)) .nil))) (.cons (.prim (.call "_law_homes") dn_law_homes (.cons (.var 0) (.cons (.lit (.int 1)) .nil))) (.cons (.lst .nil) .nil))))) (.cons (.for_ (.name 6) (.val (.var 0)) (.cons (.ifs (.boolv false (.cons (.prim (.cmp .NotIn) (funD gNin) (.cons (.prim .sub (funD gIxA) (.cons (.var 6) (.cons (.lit (.int 0)) .nil))) (.cons (.var 3) .nil))) (.cons (.prim (.cmp .NotEq) (funD gNe) (.cons (.prim .sub (funD gIxA) (.cons (.prim .sub (funD gIxA) (.cons (.var 3) (.cons (.prim .sub (funD gIxA) (.cons (.var 6) (.cons (.lit (.int 0)) .nil))) .nil))) (.cons (.lit (.int 1)) .nil))) (.cons (.prim .sub (funD gIxA) (.cons (.var 6) (.cons (.lit (.int 1)) .nil))) .nil))) .nil))) (.cons (.expr (.meth isLst "append" dAppend (.var 5) (.cons (.frzv (.tup (.cons (.ite (.prim (.cmp .Is) (funD gIsN) (.cons (.prim .sub (funD gIxA) (.cons (.var 6) (.cons (.lit (.int 3)) .nil))) (.cons (.lit .non) .nil))) (.lit (.str "drop")) (.lit (.str "retire"))) (.cons (.prim .sub (funD gIxA) (.cons (.var 6) (.cons (.lit (.int 0)) .nil))) .nil)))) .nil))) .nil) (.cons (.assign 5 (.prim (.bin .Add) (funD gAdd) (.cons (.var 5) (.cons (.lc [7] (.name 7) (.val (.prim (.call "_law_kept") dn_law_kept (.cons (.var 6) (.cons (.prim .sub (funD gIxA) (.cons (.var 3) (.cons (.prim .sub (funD gIxA) (.cons (.var 6) (.cons (.lit (.int 0)) .nil))) .nil))) .nil)))) .nil (.tup (.cons (.var 7) (.cons (.prim .sub (funD gIxA) (.cons (.var 6) (.cons (.lit (.int 0)) .nil))) .nil)))) .nil)))) .nil)) .nil)) (.cons (.for_ (.name 6) (.val (.var 1)) (.cons (.ifs (.boolv false (.cons (.prim (.cmp .NotIn) (funD gNin) (.cons (.prim .sub (funD gIxA) (.cons (.var 6) (.cons (.lit (.int 0)) .nil))) (.cons (.var 2) .nil))) (.cons (.prim (.cmp .NotEq) (funD gNe) (.cons (.prim .sub (funD gIxA) (.cons (.prim .sub (funD gIxA) (.cons (.var 2) (.cons (.prim .sub (funD gIxA) (.cons (.var 6) (.cons (.lit (.int 0)) .nil))) .nil))) (.cons (.lit (.int 1)) .nil))) (.cons (.prim .sub (funD gIxA) (.cons (.var 6) (.cons (.lit (.int 1)) .nil))) .nil))) .nil))) (.cons (.expr (.meth isLst "append" dAppend (.var 5) (.cons (.frzv (.tup (.cons (.ite (.prim (.cmp .Is) (funD gIsN) (.cons (.prim .sub (funD gIxA) (.cons (.var 6) (.cons (.lit (.int 3)) .nil))) (.cons (.lit .non) .nil))) (.lit (.str "add")) (.lit (.str "offer"))) (.cons (.prim .sub (funD gIxA) (.cons (.var 6) (.cons (.lit (.int 0)) .nil))) .nil)))) .nil))) .nil) .nil) (.cons (.ifs (.boolv true (.cons (.prim (.cmp .In) (funD gIn) (.cons (.prim .sub (funD gIxA) (.cons (.var 6) (.cons (.lit (.int 0)) .nil))) (.cons (.var 2) .nil))) (.cons (.prim (.cmp .NotEq) (funD gNe) (.cons (.prim .sub (funD gIxA) (.cons (.prim .sub (funD gIxA) (.cons (.var 2) (.cons (.prim .sub (funD gIxA) (.cons (.var 6) (.cons (.lit (.int 0)) .nil))) .nil))) (.cons (.lit (.int 1)) .nil))) (.cons (.prim .sub (funD gIxA) (.cons (.var 6) (.cons (.lit (.int 1)) .nil))) .nil))) .nil))) (.cons (.expr (.meth isLst "append" dAppend (.var 5) (.cons (.frzv (.tup (.cons (.lit (.str "reuse")) (.cons (.prim .sub (funD gIxA) (.cons (.var 6) (.cons (.lit (.int 0)) .nil))) .nil)))) .nil))) .nil) .nil) (.cons (.ifs (.boolv true (.cons (.prim (.cmp .In) (funD gIn) (.cons (.prim .sub (funD gIxA) (.cons (.var 6) (.cons (.lit (.int 1)) .nil))) (.cons (.var 4) .nil))) (.cons (.prim (.cmp .NotEq) (funD gNe) (.cons (.prim .sub (funD gIxA) (.cons (.prim .sub (funD gIxA) (.cons (.var 4) (.cons (.prim .sub (funD gIxA) (.cons (.var 6) (.cons (.lit (.int 1)) .nil))) .nil))) (.cons (.lit (.int 0)) .nil))) (.cons (.prim .sub (funD gIxA) (.cons (.var 6) (.cons (.lit (.int 0)) .nil))) .nil))) .nil))) (.cons (.expr (.meth isLst "append" dAppend (.var 5) (.cons (.frzv (.tup (.cons (.lit (.str "move")) (.cons (.prim .sub (funD gIxA) (.cons (.var 6) (.cons (.lit (.int 0)) .nil))) .nil)))) .nil))) .nil) .nil) .nil)))) (.cons (.ret (.var 5)) .nil))))
def dn_law_changes : Den := denF 2 8 ss_law_changes
def N_law_reads : List Str := ["_law_shapes", "_law_writer", "_law_reader", "_law_bad", "_law_elder", "_law_newer", "_law_name", "_law_number"]
def P_law_reads : List Str := ["_law_shapes", "_law_writer", "_law_reader"]
def ss_law_reads : SSs := (.cons (.parO false [3, 4, 5] (.cons (.meth isStr "split" (funD gSplit) (.lit (.str "add need preset narrow recode swap reuse move")) (.cons (.lit (.str " ")) .nil)) (.cons (.var 1) (.cons (.var 2) .nil)))) (.cons (.ifs (.prim (.cmp .Lt) (funD gLt) (.cons (.var 2) (.cons (.var 1) .nil))) (.cons (.parO false [3, 4, 5] (.cons (.meth isStr "split" (funD gSplit) (.lit (.str "drop ease preset widen recode swap reuse move")) (.cons (.lit (.str " ")) .nil)) (.cons (.var 2) (.cons (.var 1) .nil)))) .nil) .nil) (.cons (.ret (.notv (.prim (.call "any") (funD gAny) (.cons (.lc [6, 7] (.tup [6, 7]) (.val (.prim (.call "_law_changes") dn_law_changes (.cons (.prim .sub (funD gIxA) (.cons (.var 0) (.cons (.var 4) .nil))) (.cons (.prim .sub (funD gIxA) (.cons (.var 0) (.cons (.var 5) .nil))) .nil)))) .nil (.prim (.cmp .In) (funD gIn) (.cons (.var 6) (.cons (.var 3) .nil)))) .nil)))) .nil)))
def dn_law_reads : Den := denF 3 8 ss_law_reads
def N_law_table : List Str := ["_law_shapes", "_law_is_stored", "_law_many", "_law_table_here", "_law_r", "_law_w"]
def P_law_table : List Str := ["_law_shapes", "_law_is_stored"]
def ss_law_table : SSs := (.cons (.assign 2 (.prim (.call "len") (funD gLen) (.cons (.var 0) .nil))) (.cons (.assign 3 (.lc [5] (.name 5) (.rng1 (.var 2)) .nil (.lc [4] (.name 4) (.rng1 (.var 2)) .nil (.prim (.call "_law_reads") dn_law_reads (.cons (.var 0) (.cons (.var 5) (.cons (.var 4) .nil))))))) (.cons (.ifs (.var 1) (.cons (.for_ (.name 5) (.rng2 (.lit (.int 1)) (.var 2)) (.cons (.setsub 3 (.var 5) (.lc [4] (.name 4) (.rng1 (.var 2)) .nil (.boolv true (.cons (.prim .sub (funD gIxA) (.cons (.prim .sub (funD gIxA) (.cons (.var 3) (.cons (.var 5) .nil))) (.cons (.var 4) .nil))) (.cons (.prim .sub (funD gIxA) (.cons (.prim .sub (funD gIxA) (.cons (.var 3) (.cons (.prim (.bin .Sub) (funD gSub2) (.cons (.var 5) (.cons (.lit (.int 1)) .nil))) .nil))) (.cons (.var 4) .nil))) .nil))))) .nil)) .nil) .nil) (.cons (.ret (.var 3)) .nil))))
def dn_law_table : Den := denF 2 6 ss_law_table
def N_Plan_is_possible : List Str := ["self"]
def P_Plan_is_possible : List Str := ["self"]
def ss_Plan_is_possible : SSs := (.cons (.ret (.prim (.cmp .IsNot) (funD gNotN) (.cons (.prim (.attr "steps") at_steps (.cons (.var 0) .nil)) (.cons (.lit .non) .nil)))) .nil)
def dn_Plan_is_possible : Den := denF 1 1 ss_Plan_is_possible
def N_law_walked : List Str := ["_law_steps", "_law_table_here", "_law_many", "_law_w", "_law_r", "_law_step"]
def P_law_walked : List Str := ["_law_steps", "_law_table_here"]
def ss_law_walked : SSs := (.cons (.parO true [2, 3, 4] (.cons (.prim (.call "len") (funD gLen) (.cons (.var 1) .nil)) (.cons (.lit (.int 0)) (.cons (.lit (.int 0)) .nil)))) (.cons (.ifs (.boolv false (.cons (.notv (.prim (.call "isinstance") (funD (gIsi tb_isi)) (.cons (.var 0) (.cons (.glo "str" (.ty "str")) .nil)))) (.cons (.prim (.cmp .NotEq) (funD gNe) (.cons (.prim (.call "len") (funD gLen) (.cons (.var 0) .nil)) (.cons (.prim (.bin .Sub) (funD gSub2) (.cons (.prim (.bin .Mult) (funD gMul) (.cons (.lit (.int 2)) (.cons (.var 2) .nil))) (.cons (.lit (.int 2)) .nil))) .nil))) .nil))) (.cons (.ret (.lit (.bl false))) .nil) .nil) (.cons (.for_ (.name 5) (.val (.var 0)) (.cons (.ifs (.prim (.cmp .NotIn) (funD gNin) (.cons (.var 5) (.cons (.lst (.cons (.lit (.str "w")) (.cons (.lit (.str "r")) .nil))) .nil))) (.cons (.ret (.lit (.bl false))) .nil) .nil) (.cons (.parO true [3, 4] (.cons (.prim (.bin .Add) (funD gAdd) (.cons (.var 3) (.cons (.prim (.call "int") (funD gInt) (.cons (.prim (.cmp .Eq) (funD gEq) (.cons (.var 5) (.cons (.lit (.str "w")) .nil))) .nil)) .nil))) (.cons (.prim (.bin .Add) (funD gAdd) (.cons (.var 4) (.cons (.prim (.call "int") (funD gInt) (.cons (.prim (.cmp .Eq) (funD gEq) (.cons (.var 5) (.cons (.lit (.str "r")) .nil))) .nil)) .nil))) .nil))) (.cons (.ifs (.boolv false (.cons (.prim (.cmp .GtE) (funD gGe) (.cons (.var 3) (.cons (.var 2) .nil))) (.cons (.prim (.cmp .GtE) (funD gGe) (.cons (.var 4) (.cons (.var 2) .nil))) (.cons (.notv (.prim .sub (funD gIxA) (.cons (.prim .sub (funD gIxA) (.cons (.var 1) (.cons (.var 3) .nil))) (.cons (.var 4) .nil)))) .nil)))) (.cons (.ret (.lit (.bl false))) .nil) .nil) .nil)))) (.cons (.ret (.lit (.bl true))) .nil))))
def dn_law_walked : Den := denF 2 6 ss_law_walked
def N_law_shut : List Str := ["_law_cells", "_law_table_here", "_law_many", "_law_cell", "_law_k", "_law_w", "_law_r"]
def P_law_shut : List Str := ["_law_cells", "_law_table_here"]
def ss_law_shut : SSs := (.cons (.assign 2 (.prim (.call "len") (funD gLen) (.cons (.var 1) .nil))) (.cons (.ifs (.boolv false (.cons (.notv (.prim (.call "isinstance") (funD (gIsi tb_isi)) (.cons (.var 0) (.cons (.glo "tuple" (.ty "tuple")) .nil)))) (.cons (.notv (.var 0)) (.cons (.prim (.cmp .NotEq) (funD gNe) (.cons (.prim .sub (funD gIxA) (.cons (.var 0) (.cons (.lit (.int 0)) .nil))) (.cons (.tup (.cons (.lit (.int 0)) (.cons (.lit (.int 0)) .nil))) .nil))) (.cons (.prim (.cmp .In) (funD gIn) (.cons (.tup (.cons (.prim (.bin .Sub) (funD gSub2) (.cons (.var 2) (.cons (.lit (.int 1)) .nil))) (.cons (.prim (.bin .Sub) (funD gSub2) (.cons (.var 2) (.cons (.lit (.int 1)) .nil))) .nil))) (.cons (.var 0) .nil))) .nil))))) (.cons (.ret (.lit (.bl false))) .nil) .nil) (.cons (.for_ (.name 3) (.val (.var 0)) (.cons (.ifs (.boolv false (.cons (.notv (.prim (.call "isinstance") (funD (gIsi tb_isi)) (.cons (.var 3) (.cons (.glo "tuple" (.ty "tuple")) .nil)))) (.cons (.prim (.cmp .NotEq) (funD gNe) (.cons (.prim (.call "len") (funD gLen) (.cons (.var 3) .nil)) (.cons (.lit (.int 2)) .nil))) (.cons (.notv (.prim (.call "all") (funD gAll) (.cons (.lc [4] (.name 4) (.val (.var 3)) .nil (.prim (.call "isinstance") (funD (gIsi tb_isi)) (.cons (.var 4) (.cons (.glo "int" (.ty "int")) .nil)))) .nil))) .nil)))) (.cons (.ret (.lit (.bl false))) .nil) .nil) (.cons (.ifs (.boolv false (.cons (.prim (.call "any") (funD gAny) (.cons (.lc [4] (.name 4) (.val (.var 3)) .nil (.boolv false (.cons (.prim (.call "isinstance") (funD (gIsi tb_isi)) (.cons (.var 4) (.cons (.glo "bool" (.ty "bool")) .nil))) (.cons (.notv (.chain .LtE (funD gLe) .Lt (funD gLt) (.lit (.int 0)) (.var 4) (.var 2))) .nil)))) .nil)) (.cons (.notv (.prim .sub (funD gIxA) (.cons (.prim .sub (funD gIxA) (.cons (.var 1) (.cons (.prim .sub (funD gIxA) (.cons (.var 3) (.cons (.lit (.int 0)) .nil))) .nil))) (.cons (.prim .sub (funD gIxA) (.cons (.var 3) (.cons (.lit (.int 1)) .nil))) .nil)))) .nil))) (.cons (.ret (.lit (.bl false))) .nil) .nil) (.cons (.ifs (.boolv true (.cons (.prim (.cmp .NotEq) (funD gNe) (.cons (.var 3) (.cons (.tup (.cons (.lit (.int 0)) (.cons (.lit (.int 0)) .nil))) .nil))) (.cons (.prim (.cmp .NotIn) (funD gNin) (.cons (.tup (.cons (.prim (.bin .Sub) (funD gSub2) (.cons (.prim .sub (funD gIxA) (.cons (.var 3) (.cons (.lit (.int 0)) .nil))) (.cons (.lit (.int 1)) .nil))) (.cons (.prim .sub (funD gIxA) (.cons (.var 3) (.cons (.lit (.int 1)) .nil))) .nil))) (.cons (.var 0) .nil))) (.cons (.prim (.cmp .NotIn) (funD gNin) (.cons (.tup (.cons (.prim .sub (funD gIxA) (.cons (.var 3) (.cons (.lit (.int 0)) .nil))) (.cons (.prim (.bin .Sub) (funD gSub2) (.cons (.prim .sub (funD gIxA) (.cons (.var 3) (.cons (.lit (.int 1)) .nil))) (.cons (.lit (.int 1)) .nil))) .nil))) (.cons (.var 0) .nil))) .nil)))) (.cons (.ret (.lit (.bl false))) .nil) .nil) (.cons (.for_ (.tup [5, 6]) (.val (.lst (.cons (.tup (.cons (.prim (.bin .Add) (funD gAdd) (.cons (.prim .sub (funD gIxA) (.cons (.var 3) (.cons (.lit (.int 0)) .nil))) (.cons (.lit (.int 1)) .nil))) (.cons (.prim .sub (funD gIxA) (.cons (.var 3) (.cons (.lit (.int 1)) .nil))) .nil))) (.cons (.tup (.cons (.prim .sub (funD gIxA) (.cons (.var 3) (.cons (.lit (.int 0)) .nil))) (.cons (.prim (.bin .Add) (funD gAdd) (.cons (.prim .sub (funD gIxA) (.cons (.var 3) (.cons (.lit (.int 1)) .nil))) (.cons (.lit (.int 1)) .nil))) .nil))) .nil)))) (.cons (.ifs (.boolv true (.cons (.prim (.cmp .Lt) (funD gLt) (.cons (.var 5) (.cons (.var 2) .nil))) (.cons (.prim (.cmp .Lt) (funD gLt) (.cons (.var 6) (.cons (.var 2) .nil))) (.cons (.prim .sub (funD gIxA) (.cons (.prim .sub (funD gIxA) (.cons (.var 1) (.cons (.var 5) .nil))) (.cons (.var 6) .nil))) (.cons (.prim (.cmp .NotIn) (funD gNin) (.cons (.tup (.cons (.var 5) (.cons (.var 6) .nil))) (.cons (.var 0) .nil))) .nil))))) (.cons (.ret (.lit (.bl false))) .nil) .nil) .nil)) .nil))))) (.cons (.ret (.prim (.call "all") (funD gAll) (.cons (.lc [4] (.name 4) (.rng1 (.prim (.bin .Sub) (funD gSub2) (.cons (.prim (.call "len") (funD gLen) (.cons (.var 0) .nil)) (.cons (.lit (.int 1)) .nil)))) .nil (.prim (.cmp .Lt) (funD gLtT) (.cons (.prim .sub (funD gIxA) (.cons (.var 0) (.cons (.var 4) .nil))) (.cons (.prim .sub (funD gIxA) (.cons (.var 0) (.cons (.prim (.bin .Add) (funD gAdd) (.cons (.var 4) (.cons (.lit (.int 1)) .nil))) .nil))) .nil)))) .nil))) .nil))))
def dn_law_shut : Den := denF 2 7 ss_law_shut
def N_law_right : List Str := ["_law_told", "_law_table_here"]
def P_law_right : List Str := ["_law_told", "_law_table_here"]
def ss_law_right : SSs := (.cons (.ifs (.notv (.prim (.call "isinstance") (funD (gIsi tb_isi)) (.cons (.var 0) (.cons (.glo "Plan" (.glo "Plan")) .nil)))) (.cons (.ret (.lit (.bl false))) .nil) .nil) (.cons (.ifs (.prim (.cmp .Is) (funD gIsB) (.cons (.prim (.attr "is_possible") (clsD "Plan" dn_Plan_is_possible) (.cons (.var 0) .nil)) (.cons (.lit (.bl true)) .nil))) (.cons (.ret (.boolv true (.cons (.prim (.cmp .Is) (funD gIsN) (.cons (.prim (.attr "cells") at_cells (.cons (.var 0) .nil)) (.cons (.lit .non) .nil))) (.cons (.prim (.call "_law_walked") dn_law_walked (.cons (.prim (.attr "steps") at_steps (.cons (.var 0) .nil)) (.cons (.var 1) .nil))) .nil)))) .nil) .nil) (.cons (.ret (.boolv true (.cons (.prim (.cmp .Is) (funD gIsB) (.cons (.prim (.attr "is_possible") (clsD "Plan" dn_Plan_is_possible) (.cons (.var 0) .nil)) (.cons (.lit (.bl false)) .nil))) (.cons (.prim (.cmp .Is) (funD gIsN) (.cons (.prim (.attr "steps") at_steps (.cons (.var 0) .nil)) (.cons (.lit .non) .nil))) (.cons (.prim (.call "_law_shut") dn_law_shut (.cons (.prim (.attr "cells") at_cells (.cons (.var 0) .nil)) (.cons (.var 1) .nil))) .nil))))) .nil)))
def dn_law_right : Den := denF 2 2 ss_law_right
def N_law : List Str := ["_law_script", "_law_at", "_law_deck_here", "_law_pool_here", "_law_is_stored", "_law_shapes", "_law_editions", "_law_shape", "_law_told", "_law_other", "_law_again"]
def P_law : List Str := ["_law_script"]
def ss_law : SSs := (.cons (.for_ (.name 1) (.rng1 (.prim (.call "max") (funD gMax) (.cons (.lit (.int 1)) (.cons (.prim (.call "min") (funD gMin) (.cons (.lit (.int 4)) (.cons (.prim (.call "len") (funD gLen) (.cons (.var 0) .nil)) .nil))) .nil)))) (.cons (.assign 2 (.prim (.call "_law_deck") dn_law_deck (.cons (.var 0) (.cons (.var 1) .nil)))) (.cons (.parO true [3, 4] (.cons (.prim (.call "_law_pool") dn_law_pool (.cons (.var 2) .nil)) (.cons (.prim (.cmp .Eq) (funD gEq) (.cons (.prim (.call "_law_draw") dn_law_draw (.cons (.var 2) (.cons (.lit (.int 2)) .nil))) (.cons (.lit (.int 1)) .nil))) .nil))) (.cons (.assign 5 (.prim (.call "_law_chain") dn_law_chain (.cons (.var 2) (.cons (.var 3) (.cons (.prim (.call "_law_pick") dn_law_pick (.cons (.var 2) (.cons (.lst (.cons (.lit (.int 1)) (.cons (.lit (.int 2)) (.cons (.lit (.int 3)) (.cons (.lit (.int 4)) (.cons (.lit (.int 6)) (.cons (.lit (.int 12)) (.cons (.prim (.bin .Add) (funD gAdd) (.cons (.lit (.int 1)) (.cons (.prim (.call "_law_draw") dn_law_draw (.cons (.var 2) (.cons (.lit (.int 12)) .nil))) .nil))) .nil)))))))) .nil))) .nil))))) (.cons (.assign 6 (.lc [7] (.name 7) (.val (.var 5)) .nil (.prim (.call "_law_edition") dn_law_edition (.cons (.var 7) .nil)))) (.cons (.parO true [8, 9] (.cons (.prim (.call "_law_plan") dn_law_plan (.cons (.var 6) (.cons (.var 4) .nil))) (.cons (.prim (.call "_law_plan") dn_law_plan (.cons (.var 6) (.cons (.notv (.var 4)) .nil))) .nil))) (.cons (.expr (.meth isLst "reverse" dReverse (.var 6) .nil)) (.cons (.expr (.meth isLst "append" dAppend (.var 6) (.cons (.frzv (.prim (.call "Edition") (mkD "Edition" dn_Edition_init) (.cons (.lst .nil) .nil))) .nil))) (.cons (.ifs (.boolv false (.cons (.notv (.prim (.call "_law_right") dn_law_right (.cons (.var 8) (.cons (.prim (.call "_law_table") dn_law_table (.cons (.var 5) (.cons (.var 4) .nil))) .nil)))) (.cons (.notv (.prim (.call "_law_right") dn_law_right (.cons (.var 9) (.cons (.prim (.call "_law_table") dn_law_table (.cons (.var 5) (.cons (.notv (.var 4)) .nil))) .nil)))) .nil))) (.cons (.ret (.lit (.bl false))) .nil) .nil) (.cons (.assign 10 (.prim (.call "_law_plan") dn_law_plan (.cons (.lc [7] (.name 7) (.val (.var 5)) .nil (.prim (.call "_law_edition") dn_law_edition (.cons (.var 7) .nil))) (.cons (.var 4) .nil)))) (.cons (.ifs (.boolv false (.cons (.prim (.cmp .NotEq) (funD gNe) (.cons (.prim (.attr "steps") at_steps (.cons (.var 10) .nil)) (.cons (.prim (.attr "steps") at_steps (.cons (.var 8) .nil)) .nil))) (.cons (.prim (.cmp .NotEq) (funD gNe) (.cons (.prim (.attr "cells") at_cells (.cons (.var 10) .nil)) (.cons (.prim (.attr "cells") at_cells (.cons (.var 8) .nil)) .nil))) (.cons (.prim (.cmp .NotEq) (funD gNe) (.cons (.prim (.attr "is_possible") (clsD "Plan" dn_Plan_is_possible) (.cons (.var 8) .nil)) (.cons (.prim (.attr "is_possible") (clsD "Plan" dn_Plan_is_possible) (.cons (.var 10) .nil)) .nil))) .nil)))) (.cons (.ret (.lit (.bl false))) .nil) .nil) .nil))))))))))) (.cons (.ret (.lit (.bl true))) .nil))
def dn_law : Den := denF 1 11 ss_law
end Mp
namespace Mp
open PySem PySem.Spec PyProof.Rows L2
local macro_rules | `(tactic| walk_at "mpE") => `(tactic| first
  | with_reducible refine' a_cons ?_
  | with_reducible refine' a_nil ?_
  | with_reducible refine' v_prim ?_
  | with_reducible refine' v_int ?_
  | with_reducible refine' v_str ?_
  | with_reducible refine' v_non ?_
  | with_reducible refine' v_bl ?_
  | ((with_reducible refine' v_var ?h ?_); (case h => rfl))
  | ((with_reducible refine' v_varO ?h ?o ?_); (case h => rfl); (case o => rfl))
  | with_reducible refine' v_glo ?_
  | with_reducible refine' f_d ?_
  | with_reducible refine' f_l ?_
  | with_reducible refine' f_dic ?_
  | with_reducible refine' f_ins ?_
  | with_reducible refine' t_cmp ?_
  | with_reducible refine' t_bool ?_
  | with_reducible refine' t_not ?_
  | with_reducible refine' bt_cons ?_
  | with_reducible refine' bt_one ?_
  | with_reducible refine' v_lst ?_
  | with_reducible refine' v_tup ?_
  | with_reducible refine' d_cons ?_
  | with_reducible refine' d_nil ?_
  | with_reducible refine' v_not ?_
  | with_reducible refine' v_ite ?_
  | with_reducible refine' v_bool ?_
  | with_reducible refine' bv_cons ?_
  | with_reducible refine' bv_one ?_
  | with_reducible refine' v_meth ?_
  | with_reducible refine' v_slice ?_
  | with_reducible refine' v_chain ?_
  | with_reducible refine' t_chain ?_
  | with_reducible refine' t_ite ?_
  | with_reducible refine' v_dct ?_
  | with_reducible refine' v_callk ?_
  | with_reducible refine' v_star2 ?_
  | with_reducible refine' v_starkv ?_
  | with_reducible refine' v_callss ?_
  | with_reducible refine' d_star ?_
  | with_reducible refine' v_lc ?_
  | with_reducible refine' v_lc2 ?_
  | with_reducible refine' v_dc ?_
  | with_reducible refine' q_nil ?_
  | with_reducible refine' q_cons ?_
  | with_reducible refine' si_nil ?_
  | with_reducible refine' si_one ?_
  | with_reducible refine' f_kept ?_
  | ((with_reducible refine' f_sl ?h ?_); (case h => rfl))
  | ((with_reducible refine' f_sdic ?h ?_); (case h => rfl))
  | ((with_reducible refine' f_sins ?h ?_); (case h => rfl))
  | with_reducible refine' v_frz ?_
  | with_reducible refine' ite_t ?_
  | with_reducible refine' ite_f ?_
  | with_reducible refine' t_call ?_
  | with_reducible refine' t_call0 ?_
  | with_reducible refine' t_sub ?_
  | with_reducible refine' t_attr ?_
  | with_reducible refine' t_bin ?_
  | with_reducible refine' t_meth ?_
  | with_reducible refine' t_var ?_
  | ((with_reducible refine' t_lit ?h ?_); (case h => rfl)))
local macro_rules | `(tactic| walk_at "mpR") => `(tactic| first
  | with_reducible refine' r_val ?_
  | with_reducible refine' r_rng1 ?_
  | with_reducible refine' r_rng2 ?_
  | with_reducible refine' r_enm ?_
  | with_reducible refine' r_items ?_
  | ((with_reducible refine' r_slot ?h ?_); (case h => rfl)))
local macro_rules | `(tactic| walk_at "mpS") => `(tactic| first
  | with_reducible refine' s_cons ?_
  | with_reducible refine' s_nil ?_
  | with_reducible refine' s_asg ?_
  | with_reducible refine' s_if ?_
  | with_reducible refine' s_ret ?_
  | with_reducible refine' s_expr ?_
  | with_reducible refine' s_sub ?_
  | with_reducible refine' s_attr ?_
  | with_reducible refine' s_asgT ?_
  | with_reducible refine' s_parO ?_
  | with_reducible refine' s_par ?_
  | with_reducible refine' s_for ?_
  | with_reducible refine' s_retN ?_
  | with_reducible refine' s_pass ?_
  | with_reducible refine' s_brk ?_
  | with_reducible refine' s_cont ?_
  | with_reducible refine' k_take ?_
  | ((with_reducible refine' k_takeS ?h ?_); (case h => rfl))
  | with_reducible refine' k_give ?_
  | ((with_reducible refine' k_giveS ?h ?b ?_); (case h => rfl); (case b => rfl))
  | ((with_reducible refine' s_aug ?h ?_); (case h => rfl)))
local macro_rules | `(tactic| walk_at "mpG") => `(tactic| first
  | (with_reducible exact gMod_ok (by omega))
  | (with_reducible exact gFdiv_ok (by omega) (by omega))
  | (with_reducible exact gPow_ok (by decide) (by decide) (by omega))
  | (with_reducible exact gMul_l (by omega) (by omega))
  | (with_reducible exact gMul_r (by omega) (by omega))
  | (with_reducible exact gSub_ok)
  | (with_reducible exact gAdd_i)
  | (with_reducible exact gAddI_ok)
  | (with_reducible exact gLt_ok)
  | (with_reducible exact gLe_ok)
  | (with_reducible exact gGt_ok)
  | (with_reducible exact gGe_ok)
  | (with_reducible exact gNeg_ok)
  | (with_reducible exact gIsN_n)
  | (with_reducible exact gIsN_i)
  | (with_reducible exact gIsN_s)
  | (with_reducible exact gIsN_b)
  | (with_reducible exact gIsN_t)
  | (with_reducible exact gIsN_l)
  | (with_reducible exact gIsN_x)
  | (with_reducible exact gIsN_ok)
  | (with_reducible exact gNotN_n)
  | (with_reducible exact gNotN_i)
  | (with_reducible exact gNotN_s)
  | (with_reducible exact gNotN_t)
  | (with_reducible exact gNotN_l)
  | (with_reducible exact gNotN_x)
  | (with_reducible exact gNotN_ok)
  | (with_reducible exact gLen_l)
  | (with_reducible exact gLen_t)
  | (with_reducible exact gLen_r)
  | (with_reducible exact gLen_s (by assumption))
  | (with_reducible exact gInt_i)
  | (with_reducible exact gInt_b)
  | (with_reducible exact gStr_s)
  | (with_reducible exact gAbs_i)
  | (with_reducible exact gMax_i)
  | (with_reducible exact gMin_i)
  | (with_reducible exact gList_l)
  | (with_reducible exact gList_t)
  | (with_reducible exact gTuple_l)
  | (with_reducible exact gTuple_t)
  | (with_reducible exact gAny_ok)
  | (with_reducible exact gAll_ok)
  | (with_reducible exact gEq_ii)
  | (with_reducible exact gEq_ss)
  | (with_reducible exact gEq_bb)
  | (with_reducible exact gEq_is)
  | (with_reducible exact gEq_si)
  | (with_reducible exact gEq_nn)
  | (with_reducible exact gEq_ns)
  | (with_reducible exact gEq_sn)
  | (with_reducible exact gEq_ni)
  | (with_reducible exact gEq_in)
  | (with_reducible exact gNe_of gEq_ii)
  | (with_reducible exact gNe_of gEq_ss)
  | (with_reducible exact gNe_of gEq_bb)
  | (with_reducible exact gNe_of gEq_is)
  | (with_reducible exact gNe_of gEq_si)
  | (with_reducible exact gNe_of gEq_nn)
  | (with_reducible exact gNe_of gEq_ns)
  | (with_reducible exact gNe_of gEq_sn)
  | (with_reducible exact gNe_of gEq_ni)
  | (with_reducible exact gNe_of gEq_in)
  | (with_reducible exact ga_num)
  | (with_reducible exact ga_name)
  | (with_reducible exact ga_kind)
  | (with_reducible exact ga_pre)
  | (with_reducible exact ga_fields)
  | ((with_reducible refine' gVal_ok ?hh); (case hh => rfl))
  | ((with_reducible refine' gIsi_id ?hh); (case hh => rfl))
  | (refine' gIx_l ?hh; (case hh => rfl))
  | (refine' gIx_t ?hh; (case hh => rfl))
  | (refine' gIx_l ?hh; (case hh => exact atI_int (by decide) rfl))
  | (refine' gIx_t ?hh; (case hh => exact atI_int (by decide) rfl))
  | assumption)
local macro_rules | `(tactic| walk_at "mpA") => `(tactic| first
  | with_reducible exact avd_d
  | with_reducible exact avd_l
  | ((with_reducible refine' avd_sl ?h3); (case h3 => rfl))
  | with_reducible exact avd_dic
  | with_reducible exact avd_ins
  | ((with_reducible refine' avd_sdic ?h3); (case h3 => rfl))
  | ((with_reducible refine' avd_sins ?h3); (case h3 => rfl)))
local macro_rules | `(tactic| walk_at "mpN") => `(tactic| first | with_reducible exact nd_rr | with_reducible exact nd_sr | with_reducible exact nd_rs | (refine nd_ss ?h4; (case h4 => decide)))
local macro_rules | `(tactic| walk_at "mpC") => `(tactic| first
  | ((with_reducible refine' c_1 ?h1 ?e ?_); (case h1 => walk_at "mpA"); (case e => walk_at "mpG"))
  | ((with_reducible refine' c_2 ?nd ?h1 ?h2 ?e ?_); (case nd => walk_at "mpN"); (case h1 => walk_at "mpA"); (case h2 => walk_at "mpA"); (case e => walk_at "mpG"))
  | ((with_reducible refine' c_app ?h1 ?e ?_); (case h1 => rfl); (case e => first | assumption | (simp only [List.length_append, List.length_cons, List.length_nil]; omega) | (rw [sizeLine_eq]; first | (simp; done) | (simp; omega))))
  | ((with_reducible refine' c_rev ?h1 ?_); (case h1 => rfl)))
local macro_rules | `(tactic| walk_at "mpX") => `(tactic| first
  | ((with_reducible refine' p_2 ?h5 ?h6 ?_); (case h5 => rfl); (case h6 => rfl))
  | ((with_reducible refine' p_3 ?h5 ?h6 ?_); (case h5 => rfl); (case h6 => rfl))
  | ((with_reducible refine' p_4 ?h5 ?h6 ?_); (case h5 => rfl); (case h6 => rfl))
  | ((with_reducible refine' x_ex1 ?w9 ?h9 ?_); (case h9 => rfl))
  | ((with_reducible refine' x_ex2 ?w9 ?v9 ?h9 ?g9 ?_); (case h9 => rfl); (case g9 => rfl))
  | ((with_reducible refine' And.intro ?h8 ?_); (case h8 => first | (with_reducible (refine' And.intro ?_ ?_) <;> omega) | rfl | assumption | exact Nat.le_of_ble_eq_true rfl | trivial | decide | exact ⟨_, rfl, trivial⟩ | exact ⟨_, rfl, ⟨rfl, rfl⟩⟩ | exact ⟨_, rfl, rfl⟩ | exact ⟨_, rfl⟩ | assumption | (exact fun s e => nomatch e) | (constructor <;> omega)))
  | ((with_reducible refine' ite_yes ?h9 ?_); (case h9 => rfl))
  | ((with_reducible refine' ite_no ?h9 ?_); (case h9 => rfl))
  | ((with_reducible refine' ite_b1 ?h9 ?_); (case h9 => assumption))
  | ((with_reducible refine' ite_b0 ?h9 ?_); (case h9 => assumption))
  | ((with_reducible refine' ite_n1 ?h9 ?_); (case h9 => assumption))
  | ((with_reducible refine' ite_n0 ?h9 ?_); (case h9 => assumption))
  | ((with_reducible refine' ite_c1 ?h9 ?_); (case h9 => assumption))
  | ((with_reducible refine' ite_c0 ?h9 ?_); (case h9 => assumption))
  | ((with_reducible refine' ite_dt ?h9 ?_); (case h9 => assumption))
  | ((with_reducible refine' ite_df ?h9 ?_); (case h9 => assumption))
  | ((with_reducible refine' ite_ndt ?h9 ?_); (case h9 => assumption))
  | ((with_reducible refine' ite_ndf ?h9 ?_); (case h9 => assumption))
  | ((with_reducible refine' ite_fdt ?h9 ?_); (case h9 => assumption))
  | ((with_reducible refine' ite_fdf ?h9 ?_); (case h9 => assumption))
  | ((with_reducible refine' ite_dt ?h9 ?_); (case h9 => omega))
  | ((with_reducible refine' ite_df ?h9 ?_); (case h9 => omega))
  | ((with_reducible refine' ite_ndt ?h9 ?_); (case h9 => omega))
  | ((with_reducible refine' ite_ndf ?h9 ?_); (case h9 => omega))
  | ((with_reducible refine' ite_fdt ?h9 ?_); (case h9 => omega))
  | ((with_reducible refine' ite_fdf ?h9 ?_); (case h9 => omega)))
local macro_rules | `(tactic| walk_at "mp") => `(tactic| repeat (first | walk_at "mpE" | walk_at "mpC" | walk_at "mpS" | walk_at "mpR" | walk_at "mpX"))
local macro_rules | `(tactic| walk_at "mpP") => `(tactic| dsimp only [puts, AV.put])
/-! ### the deck of draws -/
def Dk (n : Int) (ds : List D) : Prop := ∃ a b c d : Int, ds = [.int a, .int b, .int c, .int d] ∧ 0 ≤ a ∧ 0 ≤ b ∧ b < 2305843009213693951 ∧ 0 ≤ c ∧ c ≤ 100 ∧ 0 ≤ d ∧ d ≤ n
theorem Dk.mono {n m : Int} {ds : List D} (h : Dk n ds) (k : n ≤ m) : Dk m ds := by
  obtain ⟨a, b, c, d, e, h1, h2, h3, h4, h5, h6, h7⟩ := h
  exact ⟨a, b, c, d, e, h1, h2, h3, h4, h5, h6, Int.le_trans h7 k⟩
theorem spec_draw {n m : Int} {ds : List D} {Q : RV → List RV → Prop} {E : D → List RV → Prop} (hn : n ≤ 1000000000) (dk : Dk n ds) (h1 : 0 < m) (h2 : m < 1073741824)
    (k : ∀ (r : Int) ds', 0 ≤ r → r < m → Dk (n + 1) ds' → Q (.d (.int r)) [.olst ds', .d (.int m)]) : dn_law_draw [.olst ds, .d (.int m)] Q E := by
  obtain ⟨a, b, c, d, rfl, ha, hb, hb2, hc, hc2, hd, hd2⟩ := dk
  refine ⟨rfl, ?_⟩
  unfold ss_law_draw
  walk_at "mp"
  apply ite_dec <;> intro h
  · walk_at "mp"
    exact k _ _ (Int.emod_nonneg _ (by omega)) (Int.emod_lt_of_pos _ h1) ⟨_, _, _, _, rfl, Int.ediv_nonneg ha (by omega), hb, hb2, hc, hc2, hd, by omega⟩
  · walk_at "mp"
    apply ite_dec <;> intro h'
    · walk_at "mp"
      exact k _ _ (Int.emod_nonneg _ (by omega)) (Int.emod_lt_of_pos _ h1) ⟨_, _, _, _, rfl, ha, hb, hb2, hc, hc2, by omega, by omega⟩
    · walk_at "mp"
      exact k _ _ (Int.emod_nonneg _ (by omega)) (Int.emod_lt_of_pos _ h1) ⟨_, _, _, _, rfl, ha, hb, hb2, hc, hc2, by omega, by omega⟩
/-- its call, the deck in a slot -/
theorem call_draw {E : XE} {env : En} {i : Nat} {n m : Int} {ds : List D} {K : AV → En → Prop} (h : env[i]? = some (some (.olst ds))) (dk : Dk n ds) (hn : n ≤ 1000000000) (h1 : 0 < m) (h2 : m < 1073741824)
    (k : ∀ (r : Int) ds', 0 ≤ r → r < m → Dk (n + 1) ds' → K (.rv (.d (.int r))) (env.set i (some (.olst ds')))) : callDen dn_law_draw [.slot i, .rv (.d (.int m))] env K E :=
  ⟨nd_sr, [.olst ds, .d (.int m)], by show (match (env[i]?).join with | some x => (gets env _).map (x :: ·) | none => none) = _; rw [h]; rfl, spec_draw hn dk h1 h2 fun r ds' q1 q2 q3 => k r ds' q1 q2 q3⟩
/-- one of some values -/
theorem spec_pick {n : Int} {ds xs : List D} {r : RV} {Q : RV → List RV → Prop} {E : D → List RV → Prop} (hn : n ≤ 1000000000) (dk : Dk n ds) (hr : r = .d (.lst xs) ∨ r = .olst xs) (h1 : 0 < xs.length) (h2 : xs.length < 1073741824)
    (k : ∀ x ds', x ∈ xs → Dk (n + 1) ds' → Q (.d x) [.olst ds', r]) : dn_law_pick [.olst ds, r] Q E := by
  rcases hr with rfl | rfl
  · refine ⟨rfl, ?_⟩
    unfold ss_law_pick
    walk_at "mp"
    refine call_draw (n := n) rfl dk hn (by omega) (by omega) fun j ds' j0 j1 dk' => ?_
    obtain ⟨x, hx⟩ : ∃ x, xs[j.toNat]? = some x := ⟨_, List.getElem?_eq_getElem (by omega)⟩
    walk_at "mp"
    refine c_2 nd_rr avd_d avd_d (gIx_l (atI_int j0 hx)) ?_
    walk_at "mp"
    exact k x ds' (List.mem_of_getElem? hx) dk'
  · refine ⟨rfl, ?_⟩
    unfold ss_law_pick
    walk_at "mp"
    refine call_draw (n := n) rfl dk hn (by omega) (by omega) fun j ds' j0 j1 dk' => ?_
    obtain ⟨x, hx⟩ : ∃ x, xs[j.toNat]? = some x := ⟨_, List.getElem?_eq_getElem (by omega)⟩
    walk_at "mp"
    refine c_2 nd_sr (avd_sl rfl) avd_d (gIx_l (atI_int j0 hx)) ?_
    walk_at "mp"
    exact k x ds' (List.mem_of_getElem? hx) dk'
theorem call_pick {E : XE} {env : En} {i : Nat} {n : Int} {ds xs : List D} {r : RV} {K : AV → En → Prop} (h : env[i]? = some (some (.olst ds))) (dk : Dk n ds) (hn : n ≤ 1000000000) (hr : r = .d (.lst xs) ∨ r = .olst xs) (h1 : 0 < xs.length) (h2 : xs.length < 1073741824)
    (k : ∀ x ds', x ∈ xs → Dk (n + 1) ds' → K (.rv (.d x)) (env.set i (some (.olst ds')))) : callDen dn_law_pick [.slot i, .rv r] env K E :=
  ⟨nd_sr, [.olst ds, r], by show (match (env[i]?).join with | some x => (gets env _).map (x :: ·) | none => none) = _; rw [h]; rfl, spec_pick hn dk hr h1 h2 fun x ds' q1 q3 => k x ds' q1 q3⟩
/-- a sign of a text -/
theorem spec_pickS {n : Int} {ds : List D} {z : Str} {Q : RV → List RV → Prop} {E : D → List RV → Prop} (hn : n ≤ 1000000000) (dk : Dk n ds) (h1 : 0 < z.length) (h2 : z.length ≤ sizeLine)
    (k : ∀ c ds', c ∈ z.cps.toList → Dk (n + 1) ds' → Q (.d (.str ⟨#[c]⟩)) [.olst ds', .d (.str z)]) : dn_law_pick [.olst ds, .d (.str z)] Q E := by
  have hs : sizeLine < 1073741824 := by rw [sizeLine_eq]; decide
  refine ⟨rfl, ?_⟩
  unfold ss_law_pick
  walk_at "mp"
  refine call_draw (n := n) rfl dk hn (by omega) (by omega) fun j ds' j0 j1 dk' => ?_
  have hl : z.cps.toList.length = z.length := by simp [Str.length]
  obtain ⟨x, hx⟩ : ∃ x, z.cps.toList[j.toNat]? = some x := ⟨_, List.getElem?_eq_getElem (by omega)⟩
  walk_at "mp"
  have e : (j.toNat : Int) = j := Int.toNat_of_nonneg j0
  refine c_2 nd_rr avd_d avd_d (by rw [← e]; exact gIx_s h2 hx) ?_
  walk_at "mp"
  exact k x ds' (List.mem_of_getElem? hx) dk'
theorem call_pickS {E : XE} {env : En} {i : Nat} {n : Int} {ds : List D} {z : Str} {K : AV → En → Prop} (h : env[i]? = some (some (.olst ds))) (dk : Dk n ds) (hn : n ≤ 1000000000) (h1 : 0 < z.length) (h2 : z.length ≤ sizeLine)
    (k : ∀ c ds', c ∈ z.cps.toList → Dk (n + 1) ds' → K (.rv (.d (.str ⟨#[c]⟩))) (env.set i (some (.olst ds')))) : callDen dn_law_pick [.slot i, .rv (.d (.str z))] env K E :=
  ⟨nd_sr, [.olst ds, .d (.str z)], by show (match (env[i]?).join with | some x => (gets env _).map (x :: ·) | none => none) = _; rw [h]; rfl, spec_pickS hn dk h1 h2 fun x ds' q1 q3 => k x ds' q1 q3⟩
/-! ### the deck's beginning -/
theorem spec_deck {ns : List Int} {i : Int} {Q : RV → List RV → Prop} {E : D → List RV → Prop} (hi : 0 ≤ i) (hi2 : i ≤ 100) (k : ∀ ds, Dk 0 ds → Q (.olst ds) [.d (.scr (ns.map D.int)), .d (.int i)]) : dn_law_deck [.d (.scr (ns.map D.int)), .d (.int i)] Q E := by
  refine ⟨rfl, ?_⟩
  unfold ss_law_deck
  walk_at "mp"
  have dk1 : ∀ c : Int, Dk 0 [.int (if c < 0 then -c else c), .int (c % 2305843009213693951), .int i, .int 0] := fun c => ⟨_, _, _, _, rfl, by split <;> omega, Int.emod_nonneg _ (by decide), Int.emod_lt_of_pos _ (by decide), hi, hi2, by omega, by omega⟩
  have dk2 : ∀ c : Int, Dk 0 [.int 0, .int (c % 2305843009213693951), .int i, .int 0] := fun c => ⟨_, _, _, _, rfl, by omega, Int.emod_nonneg _ (by decide), Int.emod_lt_of_pos _ (by decide), hi, hi2, by omega, by omega⟩
  apply ite_dec <;> intro h
  · walk_at "mp"
    have hl : i.toNat < ns.length := by simp at h; omega
    refine c_2 nd_rr avd_d avd_d (gIx_r (x := .int (ns[i.toNat])) (atI_int hi (by simp [hl]))) ?_
    walk_at "mp"
    apply ite_dec <;> intro h
    · walk_at "mp"
      exact k _ (dk1 _)
    · walk_at "mp"
      exact k _ (dk2 _)
  · walk_at "mp"
    exact k _ (dk2 0)
/-! ### words, pools, fields -/
open TL
theorem callDeck {E : XE} {env : En} {i : Nat} {ds : List D} {dn : Den} {rest : List AV} {rs : List RV} {K : AV → En → Prop} (h : env[i]? = some (some (.olst ds))) (hs : slots rest = []) (g : gets env rest = some rs)
    (k : dn (.olst ds :: rs) (fun r rvs' => K (.rv r) (puts env (.slot i :: rest) rvs')) (fun x rvs' => E x (puts env (.slot i :: rest) rvs'))) : callDen dn (.slot i :: rest) env K E :=
  ⟨by show (i :: slots rest).Nodup; rw [hs]; simp, .olst ds :: rs, by show (match (env[i]?).join with | some x => (gets env _).map (x :: ·) | none => none) = _; rw [h]; show (gets env rest).map _ = _; rw [g]; rfl, k⟩
/-- a call without changes -/
theorem callRv {E : XE} {env : En} {dn : Den} {rs : List RV} {K : AV → En → Prop} (k : dn rs (fun r rvs' => K (.rv r) env) (fun x rvs' => E x env)) : callDen dn (rs.map AV.rv) env K E := by
  have e1 : slots (rs.map AV.rv) = [] := by
    clear k
    induction rs with
    | nil => rfl
    | cons r rs ih => exact ih
  have e2 : ∀ env, gets env (rs.map AV.rv) = some rs := fun env => by
    clear k e1
    induction rs with
    | nil => rfl
    | cons r rs ih => show (gets env (rs.map AV.rv)).map _ = _; rw [ih]; rfl
  refine ⟨by rw [e1]; exact List.nodup_nil, rs, e2 env, ?_⟩
  have e3 : ∀ rvs', puts env (rs.map AV.rv) rvs' = env := fun rvs' => puts_rv e1
  simp only [e3]; exact k
def wordS (z : Str) : Prop := 1 ≤ (tl z).length ∧ (tl z).length ≤ 12 ∧ ∀ c ∈ tl z, 97 ≤ c ∧ c ≤ 122
theorem tl_len (z : Str) : (tl z).length = z.length := by show z.cps.toList.length = z.cps.size; simp
theorem abc : (Str.ofString "abcdefghijklmnopqrstuvwxyz").cps.toList = [97,98,99,100,101,102,103,104,105,106,107,108,109,110,111,112,113,114,115,116,117,118,119,120,121,122] := by decide +kernel
theorem joinE_len : ∀ ss : List Str, (∀ s ∈ ss, ∃ c, s = ⟨#[c]⟩ ∧ 97 ≤ c ∧ c ≤ 122) → (tl (Txt.join "" ss)).length = ss.length ∧ ∀ c ∈ tl (Txt.join "" ss), 97 ≤ c ∧ c ≤ 122 := by
  have e0 : tl ("" : Str) = [] := by decide +kernel
  intro ss h
  rw [join_eq, tl_join, e0]
  induction ss with
  | nil => exact ⟨rfl, fun c hc => by cases hc⟩
  | cons s ss ih =>
    obtain ⟨c, rfl, h1, h2⟩ := h s List.mem_cons_self
    obtain ⟨i1, i2⟩ := ih fun s hs => h s (List.mem_cons_of_mem _ hs)
    cases ss with
    | nil => exact ⟨rfl, fun d hd => by
        have : d = c := by simpa [tl, joinL] using hd
        subst this; exact ⟨h1, h2⟩⟩
    | cons s2 ss =>
      have e : joinL [] ((⟨#[c]⟩ :: s2 :: ss : List Str).map tl) = c :: joinL [] ((s2 :: ss).map tl) := rfl
      rw [e]
      exact ⟨by rw [List.length_cons, i1]; rfl, fun d hd => by
        rcases List.mem_cons.mp hd with rfl | hd
        · exact ⟨h1, h2⟩
        · exact i2 d hd⟩
theorem spec_word {n : Int} {ds : List D} {Q : RV → List RV → Prop} {E : D → List RV → Prop} (hn : n ≤ 900000000) (dk : Dk n ds)
    (k : ∀ z ds', wordS z → Dk (n + 13) ds' → Q (.d (.str z)) [.olst ds']) : dn_law_word [.olst ds] Q E := by
  refine ⟨rfl, ?_⟩
  unfold ss_law_word
  walk_at "mp"
  refine call_draw (n := n) rfl dk (by omega) (by omega) (by omega) fun j ds' j0 j1 dk' => ?_
  walk_at "mp"
  refine lc_inv (I := fun m acc e => ∃ ds2 ss, e = [some (.olst ds2), none] ∧ Dk (n + 1 + m) ds2 ∧ acc = List.map D.str ss ∧ ss.length = m ∧ ∀ s ∈ ss, ∃ c, s = ⟨#[c]⟩ ∧ 97 ≤ c ∧ c ≤ 122) 0 ⟨ds', [], rfl, by simpa using dk', rfl, rfl, fun s hs => by cases hs⟩ ?_ ?_
  · rintro m x acc e N hx ⟨ds2, ss, rfl, dk2, rfl, hl, hs⟩ hN
    have hm : m < (rangeD 0 (1 + j)).length := (List.getElem?_eq_some_iff.mp hx).1
    have hm : m < 12 := by simp [rangeD] at hm; omega
    refine ⟨trivial, _, rfl, ?_⟩
    walk_at "mp"
    refine call_pickS (n := n + 1 + m) rfl (by simpa using dk2) (by omega) (by decide +kernel) (by decide +kernel) fun c ds3 hc dk3 => ?_
    walk_at "mp"
    rw [abc] at hc
    refine hN (some (.str ⟨#[c]⟩)) _ ⟨by rw [List.length_map, sizeLine_eq]; omega, ds3, ss ++ [⟨#[c]⟩], rfl, dk3.mono (by omega), by simp, by simp [hl], fun s hs' => ?_⟩
    rcases List.mem_append.mp hs' with q | q
    · exact hs s q
    · have q : s = ⟨#[c]⟩ := by simpa using q
      exact ⟨c, q, by simp at hc; omega⟩
  · rintro acc e ⟨ds2, ss, rfl, dk2, rfl, hl, hs⟩
    have hl' : ss.length = 1 + j := by
      rw [hl]; simp [rangeD]; omega
    obtain ⟨q1, q2⟩ := joinE_len ss hs
    have hz : (ss.map (·.length)).sum + ss.length * (Str.ofString "").length ≤ 16777216 := by
      have e0 : (Str.ofString "").length = 0 := by decide +kernel
      have e1 : ∀ ss : List Str, (∀ s ∈ ss, ∃ c, s = ⟨#[c]⟩ ∧ 97 ≤ c ∧ c ≤ 122) → (ss.map (·.length)).sum = ss.length := fun ss hs => by
        induction ss with
        | nil => rfl
        | cons s ss ih =>
          obtain ⟨c, rfl, _⟩ := hs s List.mem_cons_self
          simp only [List.map_cons, List.sum_cons, List.length_cons]
          rw [ih fun s h => hs s (List.mem_cons_of_mem _ h)]
          show 1 + ss.length = _
          omega
      rw [e0, e1 ss hs]; omega
    refine ⟨trivial, ?_⟩
    walk_at "mp"
    refine c_2 nd_rr avd_d avd_l (gJoin_ok hz) ?_
    walk_at "mp"
    exact k _ ds2 ⟨by omega, by omega, q2⟩ (dk2.mono (by rw [← hl]; omega))
/-- three numbers, three names -/
structure PoolOk (P : List Int) (N : List Str) : Prop where
  l1 : P.length = 3
  l2 : N.length = 3
  d1 : P.Nodup
  d2 : N.Nodup
  r : ∀ p ∈ P, 1 ≤ p ∧ p ≤ 999999
  w : ∀ z ∈ N, wordS z
def poolD (P : List Int) (N : List Str) : D := .tup [.lst (P.map .int), .lst (N.map .str)]
theorem cut11 {z : Str} (h : wordS z) : (tl (Txt.slice z none (some 11))).length ≤ 11 ∧ ∀ c ∈ tl (Txt.slice z none (some 11)), 97 ≤ c ∧ c ≤ 122 := by
  have e : z = SX.S (tl z) := ext_tl (by rfl)
  have e2 : tl (Txt.slice z none (some 11)) = (tl z).take 11 := by
    conv => lhs; rw [e]
    rw [SX.slice_to (by omega)]; rfl
  rw [e2]
  exact ⟨by simp; omega, fun c hc => h.2.2 c (List.mem_of_mem_take hc)⟩
theorem names_suf {z : Str} (h : (tl z).length ≤ 11 ∧ ∀ c ∈ tl z, 97 ≤ c ∧ c ≤ 122) {a b c : Nat} (ha : 97 ≤ a ∧ a ≤ 122) (hb : 97 ≤ b ∧ b ≤ 122) (hc : 97 ≤ c ∧ c ≤ 122) (h1 : a ≠ b) (h2 : a ≠ c) (h3 : b ≠ c) :
    ([z ++ ⟨#[a]⟩, z ++ ⟨#[b]⟩, z ++ ⟨#[c]⟩] : List Str).Nodup ∧ ∀ x ∈ ([z ++ ⟨#[a]⟩, z ++ ⟨#[b]⟩, z ++ ⟨#[c]⟩] : List Str), wordS x := by
  have inj : ∀ {x y : Nat}, z ++ (⟨#[x]⟩ : Str) = z ++ ⟨#[y]⟩ → x = y := fun {x y} e => by
    have e := congrArg tl e
    rw [tl_append, tl_append] at e
    have e := List.append_cancel_left e
    simpa [tl] using e
  have w : ∀ {x : Nat}, 97 ≤ x ∧ x ≤ 122 → wordS (z ++ ⟨#[x]⟩) := fun {x} hx => by
    unfold wordS
    rw [tl_append]
    refine ⟨by rw [List.length_append]; show 1 ≤ _ + 1; omega, by rw [List.length_append]; show _ + 1 ≤ _; omega, fun d hd => ?_⟩
    rcases List.mem_append.mp hd with hd | hd
    · exact h.2 d hd
    · have : d = x := by simpa [tl] using hd
      subst this; exact hx
  refine ⟨?_, fun x hx => ?_⟩
  · simp only [List.nodup_cons, List.mem_cons, List.not_mem_nil, or_false, not_or, List.nodup_nil, and_true, not_false_eq_true]
    exact ⟨⟨fun e => h1 (inj e), fun e => h2 (inj e)⟩, fun e => h3 (inj e)⟩
  · simp only [List.mem_cons, List.not_mem_nil, or_false] at hx
    rcases hx with rfl | rfl | rfl
    · exact w ha
    · exact w hb
    · exact w hc
theorem names_pre {z : Str} (h : (tl z).length ≤ 11 ∧ ∀ c ∈ tl z, 97 ≤ c ∧ c ≤ 122) {a b c : Nat} (ha : 97 ≤ a ∧ a ≤ 122) (hb : 97 ≤ b ∧ b ≤ 122) (hc : 97 ≤ c ∧ c ≤ 122) (h1 : a ≠ b) (h2 : a ≠ c) (h3 : b ≠ c) :
    ([⟨#[a]⟩ ++ z, ⟨#[b]⟩ ++ z, ⟨#[c]⟩ ++ z] : List Str).Nodup ∧ ∀ x ∈ ([⟨#[a]⟩ ++ z, ⟨#[b]⟩ ++ z, ⟨#[c]⟩ ++ z] : List Str), wordS x := by
  have inj : ∀ {x y : Nat}, (⟨#[x]⟩ : Str) ++ z = ⟨#[y]⟩ ++ z → x = y := fun {x y} e => by
    have e := congrArg tl e
    rw [tl_append, tl_append] at e
    have e := List.append_cancel_right e
    simpa [tl] using e
  have w : ∀ {x : Nat}, 97 ≤ x ∧ x ≤ 122 → wordS (⟨#[x]⟩ ++ z) := fun {x} hx => by
    unfold wordS
    rw [tl_append]
    refine ⟨by rw [List.length_append]; show 1 ≤ 1 + _; omega, by rw [List.length_append]; show 1 + _ ≤ _; omega, fun d hd => ?_⟩
    rcases List.mem_append.mp hd with hd | hd
    · have : d = x := by simpa [tl] using hd
      subst this; exact hx
    · exact h.2 d hd
  refine ⟨?_, fun x hx => ?_⟩
  · simp only [List.nodup_cons, List.mem_cons, List.not_mem_nil, or_false, not_or, List.nodup_nil, and_true, not_false_eq_true]
    exact ⟨⟨fun e => h1 (inj e), fun e => h2 (inj e)⟩, fun e => h3 (inj e)⟩
  · simp only [List.mem_cons, List.not_mem_nil, or_false] at hx
    rcases hx with rfl | rfl | rfl
    · exact w ha
    · exact w hb
    · exact w hc
theorem word_size {z : Str} (h : wordS z) : z.length ≤ 12 := by rw [← tl_len]; exact h.2.1
def catL (z : Str) : D → Option D
  | .str s => some (.str (z ++ s))
  | _ => none
def catR (z : Str) : D → Option D
  | .str s => some (.str (s ++ z))
  | _ => none
theorem spec_pool {n : Int} {ds : List D} {Q : RV → List RV → Prop} {E : D → List RV → Prop} (hn : n ≤ 800000000) (dk : Dk n ds)
    (k : ∀ P N ds', PoolOk P N → Dk (n + 20) ds' → Q (.d (poolD P N)) [.olst ds']) : dn_law_pool [.olst ds] Q E := by
  refine ⟨rfl, ?_⟩
  unfold ss_law_pool
  walk_at "mp"
  refine callDeck rfl rfl rfl (spec_word (n := n) (by omega) dk fun z ds1 hz dk1 => ?_)
  walk_at "mpP"
  walk_at "mp"
  have hz2 := word_size hz
  have hzl : z.length ≤ sizeLine := by rw [sizeLine_eq]; omega
  refine c_2 nd_rr avd_d avd_d (show _ = some (.d (.str (Txt.slice z none (some 11)))) from if_pos hzl) ?_
  have h11 := cut11 hz
  generalize Txt.slice z none (some 11) = y at h11 ⊢
  have hy : y.length ≤ 11 := by rw [← tl_len]; exact h11.1
  walk_at "mp"
  refine call_draw (n := n + 13) rfl dk1 (by omega) (by omega) (by omega) fun j ds2 j0 j1 dk2 => ?_
  walk_at "mp"
  apply ite_dec <;> intro h
  case' h1 =>
    walk_at "mp"
    refine lc_pure (f := catL y) (by rw [sizeLine_eq]; decide +kernel) (fun x N hx hN => ?_) ?_
    · obtain ⟨c, hc, rfl⟩ := List.mem_map.mp hx
      refine ⟨trivial, _, rfl, ?_⟩
      walk_at "mp"
      refine c_2 nd_rr avd_d avd_d (gAdd_s (by rw [sizeLine_eq]; show _ + 1 ≤ _; omega)) ?_
      walk_at "mp"
      exact hN
    obtain ⟨q1, q2⟩ := names_suf h11 (a := 97) (b := 98) (c := 122) (by omega) (by omega) (by omega) (by omega) (by omega) (by omega)
    have e : ([] : List D) ++ (chars (Str.ofString "abz")).filterMap (catL y) = ([y ++ ⟨#[97]⟩, y ++ ⟨#[98]⟩, y ++ ⟨#[122]⟩] : List Str).map D.str := by
      have e : chars (Str.ofString "abz") = [.str ⟨#[97]⟩, .str ⟨#[98]⟩, .str ⟨#[122]⟩] := by
        have : (Str.ofString "abz").cps.toList = [97, 98, 122] := by decide +kernel
        unfold chars; rw [this]; rfl
      rw [e]; rfl
    rw [e]
    have q3 : ([y ++ ⟨#[97]⟩, y ++ ⟨#[98]⟩, y ++ ⟨#[122]⟩] : List Str).length = 3 := rfl
    generalize ([y ++ ⟨#[97]⟩, y ++ ⟨#[98]⟩, y ++ ⟨#[122]⟩] : List Str) = N at q1 q2 q3 ⊢
    refine ⟨trivial, ?_⟩
  case' h2 =>
    walk_at "mp"
    refine lc_pure (f := catR y) (by rw [sizeLine_eq]; decide +kernel) (fun x N hx hN => ?_) ?_
    · obtain ⟨c, hc, rfl⟩ := List.mem_map.mp hx
      refine ⟨trivial, _, rfl, ?_⟩
      walk_at "mp"
      refine c_2 nd_rr avd_d avd_d (gAdd_s (by rw [sizeLine_eq]; show 1 + _ ≤ _; omega)) ?_
      walk_at "mp"
      exact hN
    obtain ⟨q1, q2⟩ := names_pre h11 (a := 97) (b := 109) (c := 122) (by omega) (by omega) (by omega) (by omega) (by omega) (by omega)
    have e : ([] : List D) ++ (chars (Str.ofString "amz")).filterMap (catR y) = ([⟨#[97]⟩ ++ y, ⟨#[109]⟩ ++ y, ⟨#[122]⟩ ++ y] : List Str).map D.str := by
      have e : chars (Str.ofString "amz") = [.str ⟨#[97]⟩, .str ⟨#[109]⟩, .str ⟨#[122]⟩] := by
        have : (Str.ofString "amz").cps.toList = [97, 109, 122] := by decide +kernel
        unfold chars; rw [this]; rfl
      rw [e]; rfl
    rw [e]
    have q3 : ([⟨#[97]⟩ ++ y, ⟨#[109]⟩ ++ y, ⟨#[122]⟩ ++ y] : List Str).length = 3 := rfl
    generalize ([⟨#[97]⟩ ++ y, ⟨#[109]⟩ ++ y, ⟨#[122]⟩ ++ y] : List Str) = N at q1 q2 q3 ⊢
    refine ⟨trivial, ?_⟩
  all_goals
    walk_at "mp"
    refine call_draw (n := n + 14) rfl (dk2.mono (by omega)) (by omega) (by omega) (by omega) fun a ds3 a0 a1 dk3 => ?_
    walk_at "mp"
    refine call_draw (n := n + 15) rfl (dk3.mono (by omega)) (by omega) (by omega) (by omega) fun b ds4 b0 b1 dk4 => ?_
    walk_at "mp"
    refine call_draw (n := n + 16) rfl (dk4.mono (by omega)) (by omega) (by omega) (by omega) fun c ds5 c0 c1 dk5 => ?_
    walk_at "mp"
    exact k [1 + a, 10 + b, 999999 - c] N _ ⟨rfl, q3, by simp; omega, q1, by simp; omega, q2⟩ (dk5.mono (by omega))
/-! ### fields, shapes -/
theorem spec_field {n : Int} {ds : List D} {i : Int} {z : Str} {Q : RV → List RV → Prop} {E : D → List RV → Prop} (hn : n ≤ 800000000) (dk : Dk n ds)
    (k : ∀ kd p ds', FOk ⟨i, z, kd, p⟩ → Dk (n + 3) ds' → Q (.d (rowD ⟨i, z, kd, p⟩)) [.olst ds', .d (.int i), .d (.str z)]) : dn_law_field [.olst ds, .d (.int i), .d (.str z)] Q E := by
  refine ⟨rfl, ?_⟩
  unfold ss_law_field
  walk_at "mp"
  refine call_pick (n := n) rfl dk (by omega) (.inr rfl) (by show 0 < 4; omega) (by show 4 < _; omega) fun x ds1 hx dk1 => ?_
  have hx : x = .str (Str.ofString "small") ∨ x = .str (Str.ofString "whole") ∨ x = .str (Str.ofString "signed") ∨ x = .str (Str.ofString "text") := by
    simpa only [List.mem_cons, List.not_mem_nil, or_false] using hx
  have fin : ∀ (p : D) (kd : Str) ds', kindOk kd → preOk kd p → Dk (n + 3) ds' → Q (.d (rowD ⟨i, z, kd, p⟩)) [.olst ds', .d (.int i), .d (.str z)] := fun p kd ds' h1 h2 h3 => k kd p ds' ⟨h1, h2⟩ h3
  have p0 : preOk (Str.ofString "small") (.int 0) ∧ preOk (Str.ofString "small") (.int 1) ∧ preOk (Str.ofString "small") (.int 255) := ⟨.inr (.inr (.inl ⟨rfl, _, rfl, by omega, by omega⟩)), .inr (.inr (.inl ⟨rfl, _, rfl, by omega, by omega⟩)), .inr (.inr (.inl ⟨rfl, _, rfl, by omega, by omega⟩))⟩
  have p1 : preOk (Str.ofString "whole") (.int 0) ∧ preOk (Str.ofString "whole") (.int 1) ∧ preOk (Str.ofString "whole") (.int (10 ^ Int.toNat 18)) := ⟨.inr (.inr (.inr (.inl ⟨rfl, _, rfl, by omega, by omega⟩))), .inr (.inr (.inr (.inl ⟨rfl, _, rfl, by omega, by omega⟩))), .inr (.inr (.inr (.inl ⟨rfl, _, rfl, by decide +kernel, by decide +kernel⟩)))⟩
  have p2 : preOk (Str.ofString "signed") (.int 0) ∧ preOk (Str.ofString "signed") (.int 1) ∧ preOk (Str.ofString "signed") (.int (-1)) := ⟨.inr (.inr (.inr (.inr ⟨rfl, _, rfl, by omega, by omega⟩))), .inr (.inr (.inr (.inr ⟨rfl, _, rfl, by omega, by omega⟩))), .inr (.inr (.inr (.inr ⟨rfl, _, rfl, by omega, by omega⟩)))⟩
  have p3 : preOk (Str.ofString "text") (.str (Str.ofString "")) ∧ preOk (Str.ofString "text") (.str (Str.ofString "1")) ∧ preOk (Str.ofString "text") (.str (Str.ofString "a b")) := ⟨.inr (.inl ⟨rfl, _, rfl, by decide +kernel⟩), .inr (.inl ⟨rfl, _, rfl, by decide +kernel⟩), .inr (.inl ⟨rfl, _, rfl, by decide +kernel⟩)⟩
  have pick3 : ∀ {kd : Str} {a b c x : D}, preOk kd a ∧ preOk kd b ∧ preOk kd c → x ∈ [a, b, c] → preOk kd x := fun {kd a b c x} h hx => by
    simp only [List.mem_cons, List.not_mem_nil, or_false] at hx
    rcases hx with rfl | rfl | rfl
    · exact h.1
    · exact h.2.1
    · exact h.2.2
  have k0 : kindOk (Str.ofString "small") := .inl rfl
  have k1 : kindOk (Str.ofString "whole") := .inr (.inl rfl)
  have k2 : kindOk (Str.ofString "signed") := .inr (.inr (.inl rfl))
  have k3 : kindOk (Str.ofString "text") := .inr (.inr (.inr rfl))
  rcases hx with rfl | rfl | rfl | rfl
  · walk_at "mp"
    refine call_draw (n := n + 1) rfl dk1 (by omega) (by omega) (by omega) fun a ds2 a0 a1 dk2 => ?_
    walk_at "mp"
    apply ite_dec <;> intro h
    · walk_at "mp"
      refine c_2 nd_sr (avd_sdic rfl) avd_d (gIx_d (x := .lst [.int 0, .int 1, .int 255]) rfl (by with_unfolding_all rfl)) ?_
      walk_at "mp"
      refine call_pick (n := n + 2) rfl (dk2.mono (by omega)) (by omega) (.inl rfl) (by show 0 < 3; omega) (by show 3 < _; omega) fun x ds3 hx dk3 => ?_
      walk_at "mp"
      exact fin _ _ _ k0 (pick3 p0 hx) (dk3.mono (by omega))
    · walk_at "mp"
      exact fin _ _ _ k0 (.inl rfl) (dk2.mono (by omega))
  · walk_at "mp"
    refine call_draw (n := n + 1) rfl dk1 (by omega) (by omega) (by omega) fun a ds2 a0 a1 dk2 => ?_
    walk_at "mp"
    apply ite_dec <;> intro h
    · walk_at "mp"
      refine c_2 nd_sr (avd_sdic rfl) avd_d (gIx_d (x := .lst [.int 0, .int 1, .int (10 ^ Int.toNat 18)]) rfl (by with_unfolding_all rfl)) ?_
      walk_at "mp"
      refine call_pick (n := n + 2) rfl (dk2.mono (by omega)) (by omega) (.inl rfl) (by show 0 < 3; omega) (by show 3 < _; omega) fun x ds3 hx dk3 => ?_
      walk_at "mp"
      exact fin _ _ _ k1 (pick3 p1 hx) (dk3.mono (by omega))
    · walk_at "mp"
      exact fin _ _ _ k1 (.inl rfl) (dk2.mono (by omega))
  · walk_at "mp"
    refine call_draw (n := n + 1) rfl dk1 (by omega) (by omega) (by omega) fun a ds2 a0 a1 dk2 => ?_
    walk_at "mp"
    apply ite_dec <;> intro h
    · walk_at "mp"
      refine c_2 nd_sr (avd_sdic rfl) avd_d (gIx_d (x := .lst [.int 0, .int 1, .int (-1)]) rfl (by with_unfolding_all rfl)) ?_
      walk_at "mp"
      refine call_pick (n := n + 2) rfl (dk2.mono (by omega)) (by omega) (.inl rfl) (by show 0 < 3; omega) (by show 3 < _; omega) fun x ds3 hx dk3 => ?_
      walk_at "mp"
      exact fin _ _ _ k2 (pick3 p2 hx) (dk3.mono (by omega))
    · walk_at "mp"
      exact fin _ _ _ k2 (.inl rfl) (dk2.mono (by omega))
  · walk_at "mp"
    refine call_draw (n := n + 1) rfl dk1 (by omega) (by omega) (by omega) fun a ds2 a0 a1 dk2 => ?_
    walk_at "mp"
    apply ite_dec <;> intro h
    · walk_at "mp"
      refine c_2 nd_sr (avd_sdic rfl) avd_d (gIx_d (x := .lst [.str (Str.ofString ""), .str (Str.ofString "1"), .str (Str.ofString "a b")]) rfl (by with_unfolding_all rfl)) ?_
      walk_at "mp"
      refine call_pick (n := n + 2) rfl (dk2.mono (by omega)) (by omega) (.inl rfl) (by show 0 < 3; omega) (by show 3 < _; omega) fun x ds3 hx dk3 => ?_
      walk_at "mp"
      exact fin _ _ _ k3 (pick3 p3 hx) (dk3.mono (by omega))
    · walk_at "mp"
      exact fin _ _ _ k3 (.inl rfl) (dk2.mono (by omega))
/-! ### shapes: some, the next -/
theorem for0 {body : D → En → DE → Prop} {D0 : DE} (I : Nat → En → Prop) {xs : List D} {env : En} (h0 : I 0 env)
    (hs : ∀ (k : Nat) (x : D) (env : En) (N : En → Prop), xs[k]? = some x → I k env → (∀ e, I (k + 1) e → N e) → body x env { nx := N, rt := D0.rt, bk := D0.nx, ct := N })
    (hd : ∀ env, I xs.length env → D0.nx env) : forLoop body D0 xs env :=
  for_inv I 0 h0 (fun k x e N hx hi hn => hs k x e N hx (by rwa [Nat.zero_add] at hi) fun e he => hn e (by rwa [Nat.zero_add])) fun e h => hd e (by rwa [Nat.zero_add] at h)
theorem lc0 {body : D → En → (Option D → En → Prop) → Prop} {K : List D → En → Prop} (I : Nat → List D → En → Prop) {xs acc : List D} {env : En} (h0 : I 0 acc env)
    (hs : ∀ (k : Nat) (x : D) (acc : List D) (env : En) (N : Option D → En → Prop), xs[k]? = some x → I k acc env → (∀ o e, (match o with | some y => acc.length < sizeLine ∧ I (k + 1) (acc ++ [y]) e | none => I (k + 1) acc e) → N o e) → body x env N)
    (hd : ∀ acc env, I xs.length acc env → K acc env) : lcLoop body xs acc env K :=
  lc_inv I 0 h0 (fun k x a e N hx hi hn => hs k x a e N hx (by rwa [Nat.zero_add] at hi) fun o e he => hn o e (by rwa [Nat.zero_add])) fun a e h => hd a e (by rwa [Nat.zero_add] at h)
structure ShOk (P : List Int) (N : List Str) (A : List Fld) : Prop where
  f : ∀ f ∈ A, FOk f
  n : ∀ f ∈ A, f.num ∈ P
  z : ∀ f ∈ A, f.name ∈ N
  dn : (A.map Fld.num).Nodup
  dz : (A.map Fld.name).Nodup
theorem ShOk.len {P : List Int} {N : List Str} {A : List Fld} (h : ShOk P N A) : A.length ≤ P.length := by
  have := h.dn.length_le_of_subset (l₂ := P) (fun x hx => by obtain ⟨f, hf, rfl⟩ := List.mem_map.mp hx; exact h.n f hf)
  simpa using this
theorem ShOk.sub {P : List Int} {N : List Str} {A B : List Fld} (h : ShOk P N A) (s : B.Sublist A) : ShOk P N B :=
  ⟨fun f hf => h.f f (s.subset hf), fun f hf => h.n f (s.subset hf), fun f hf => h.z f (s.subset hf), List.Nodup.sublist (s.map _) h.dn, List.Nodup.sublist (s.map _) h.dz⟩
theorem ShOk.add {P : List Int} {N : List Str} {A : List Fld} {f : Fld} (h : ShOk P N A) (hf : FOk f) (h1 : f.num ∈ P) (h2 : f.name ∈ N) (h3 : f.num ∉ A.map Fld.num) (h4 : f.name ∉ A.map Fld.name) : ShOk P N (A ++ [f]) := by
  have mem : ∀ g ∈ A ++ [f], g ∈ A ∨ g = f := fun g hg => by simpa using hg
  refine ⟨fun g hg => ?_, fun g hg => ?_, fun g hg => ?_, ?_, ?_⟩
  · rcases mem g hg with h' | rfl
    · exact h.f g h'
    · exact hf
  · rcases mem g hg with h' | rfl
    · exact h.n g h'
    · exact h1
  · rcases mem g hg with h' | rfl
    · exact h.z g h'
    · exact h2
  · rw [List.map_append, List.nodup_append]
    exact ⟨h.dn, by simp, fun a ha b hb e => by simp at hb; subst hb; subst e; exact h3 ha⟩
  · rw [List.map_append, List.nodup_append]
    exact ⟨h.dz, by simp, fun a ha b hb e => by simp at hb; subst hb; subst e; exact h4 ha⟩
theorem ShOk.nil {P : List Int} {N : List Str} : ShOk P N [] := ⟨by simp, by simp, by simp, by simp, by simp⟩
theorem erIdx_map {α β : Type} (f : α → β) : ∀ (l : List α) (i : Nat), (l.map f).eraseIdx i = (l.eraseIdx i).map f
  | [], _ => rfl
  | _ :: _, 0 => rfl
  | x :: l, i + 1 => by simp [erIdx_map f l i]
theorem erIdx_perm {α : Type} : ∀ {l : List α} {i : Nat} {y : α}, l[i]? = some y → (y :: l.eraseIdx i).Perm l
  | x :: l, 0, y, h => by cases h; exact .refl _
  | x :: l, i + 1, y, h => by
    refine (List.Perm.swap x y _).trans ((erIdx_perm (l := l) (i := i) h).cons x)
theorem spec_start {n : Int} {ds : List D} {P : List Int} {N : List Str} {Q : RV → List RV → Prop} {E : D → List RV → Prop} (hn : n ≤ 700000000) (dk : Dk n ds) (po : PoolOk P N)
    (k : ∀ A ds', ShOk P N A → Dk (n + 15) ds' → Q (.olst (A.map rowD)) [.olst ds', .d (poolD P N)]) : dn_law_start [.olst ds, .d (poolD P N)] Q E := by
  unfold poolD at k ⊢
  refine ⟨rfl, ?_⟩
  unfold ss_law_start
  walk_at "mp"
  refine for0 (I := fun m e => ∃ ds2 ns A w, e = [some (.olst ds2), some (.d (.tup [.lst (P.map .int), .lst (N.map .str)])), some (.olst (ns.map D.str)), some (.olst (A.map rowD)), w] ∧ Dk (n + 5 * m) ds2 ∧ 3 ≤ ns.length + m ∧ (A.map Fld.name ++ ns).Nodup ∧ (∀ z ∈ ns, z ∈ N) ∧ ShOk P N A ∧ ∀ f ∈ A, f.num ∈ P.take m)
    ⟨ds, N, [], none, rfl, by simpa using dk, by rw [po.l2]; omega, by simpa using po.d2, fun z h => h, .nil, by simp⟩ ?_ ?_
  · rintro m x e NX hx ⟨ds2, ns, A, w, rfl, dk2, hl, nd, hs, sh, hm⟩ hN
    have hx : (P.map D.int)[m]? = some x := hx
    rw [List.getElem?_map, Option.map_eq_some_iff] at hx
    obtain ⟨p, hp, rfl⟩ := hx
    have hm3 : m < 3 := by have := (List.getElem?_eq_some_iff.mp hp).1; rw [po.l1] at this; exact this
    have pm : p ∉ P.take m := fun h => by
      obtain ⟨j, hj, e⟩ := List.mem_take_iff_getElem.mp h
      obtain ⟨hm', e2⟩ := List.getElem?_eq_some_iff.mp hp
      have := (List.nodup_iff_pairwise_ne.mp po.d1 |> List.pairwise_iff_getElem.mp) j m (by omega) hm' (by omega)
      exact this (e.trans e2.symm)
    have pm2 : p ∈ P.take (m + 1) := List.mem_take_iff_getElem.mpr ⟨m, by have := (List.getElem?_eq_some_iff.mp hp).1; omega, (List.getElem?_eq_some_iff.mp hp).2⟩
    have up : ∀ q, q ∈ P.take m → q ∈ P.take (m + 1) := fun q hq => by
      obtain ⟨j, hj, e⟩ := List.mem_take_iff_getElem.mp hq
      exact List.mem_take_iff_getElem.mpr ⟨j, by omega, e⟩
    refine ⟨_, rfl, ?_⟩
    walk_at "mp"
    refine call_draw (n := n + 5 * m) rfl dk2 (by omega) (by omega) (by omega) fun a ds3 a0 a1 dk3 => ?_
    walk_at "mp"
    apply ite_dec <;> intro h
    · walk_at "mp"
      have nl : ns.length ≤ 3 := by
        have := (List.nodup_append.mp nd).2.1.length_le_of_subset (l₂ := N) fun z hz => hs z hz
        rw [po.l2] at this; exact this
      refine call_draw (n := n + 5 * m + 1) rfl dk3 (by omega) (by rw [List.length_map]; omega) (by rw [List.length_map]; omega) fun b ds4 b0 b1 dk4 => ?_
      rw [List.length_map] at b1
      obtain ⟨bn, rfl⟩ := Int.eq_ofNat_of_zero_le b0
      obtain ⟨y, hy⟩ : ∃ y, ns[bn]? = some y := ⟨_, List.getElem?_eq_getElem (by omega)⟩
      walk_at "mp"
      refine c_pop rfl (by rw [List.length_map, sizeLine_eq]; omega) (y := .str y) (by rw [List.getElem?_map, hy]; rfl) ?_
      rw [erIdx_map]
      have pr := erIdx_perm hy
      have hy' : y ∈ ns := List.mem_of_getElem? hy
      have lp := pr.length_eq
      rw [List.length_cons] at lp
      have sb : ∀ z ∈ ns.eraseIdx bn, z ∈ N := fun z hz => hs z (pr.subset (List.mem_cons_of_mem _ hz))
      have nd2 : ((A.map Fld.name ++ [y]) ++ ns.eraseIdx bn).Nodup := by
        rw [List.append_assoc]
        exact ((List.Perm.append_left _ pr).nodup_iff).mpr nd
      walk_at "mp"
      refine callDeck rfl rfl rfl (spec_field (n := n + 5 * m + 2) (by omega) (dk4.mono (by omega)) fun kd pp ds5 fok dk5 => ?_)
      walk_at "mpP"
      walk_at "mp"
      have al : A.length < sizeLine := by have := sh.len; rw [po.l1] at this; rw [sizeLine_eq]; omega
      refine c_app rfl (by rw [List.length_map]; exact al) ?_
      walk_at "mp"
      refine hN _ ⟨ds5, ns.eraseIdx bn, A ++ [⟨p, y, kd, pp⟩], _, by rw [List.map_append]; rfl, dk5.mono (by omega), by omega, by rw [List.map_append]; exact nd2, sb, sh.add fok (List.mem_of_getElem? hp) (hs y hy') (fun h => ?_) (fun h => ?_), fun f hf => ?_⟩
      · obtain ⟨f, hf, e⟩ := List.mem_map.mp h
        exact pm (by have := hm f hf; rwa [e] at this)
      · have := List.nodup_append.mp nd
        exact this.2.2 _ h _ hy' rfl
      · rcases List.mem_append.mp hf with h | h
        · exact up _ (hm f h)
        · simp at h; subst h; exact pm2
    · walk_at "mp"
      exact hN _ ⟨ds3, ns, A, _, rfl, dk3.mono (by omega), by omega, nd, hs, sh, fun f hf => up _ (hm f hf)⟩
  · rintro e ⟨ds2, ns, A, w, rfl, dk2, hl, nd, hs, sh, hm⟩
    walk_at "mp"
    have hl : (P.map D.int).length = 3 := by rw [List.length_map, po.l1]
    exact k A ds2 sh (dk2.mono (by show n + 5 * (((P.map D.int).length : Nat) : Int) ≤ _; omega))
/-! ### the next shape, a chain -/
def numIs (p : Int) : D → Option D
  | .tup (.int i :: r) => if i = p then some (.tup (.int i :: r)) else none
  | _ => none
def numNot (p : Int) : D → Option D
  | .tup (.int i :: r) => if i = p then none else some (.tup (.int i :: r))
  | _ => none
def nameOf : D → Option D
  | .tup (_ :: z :: _) => some z
  | _ => none
theorem numIs_row (p : Int) (A : List Fld) : (A.map rowD).filterMap (numIs p) = (A.filter fun f => decide (f.num = p)).map rowD := by
  induction A with
  | nil => rfl
  | cons f A ih =>
    rw [List.map_cons, List.filterMap_cons, List.filter_cons]
    by_cases h : f.num = p
    · rw [show numIs p (rowD f) = some (rowD f) from if_pos h, if_pos (decide_eq_true h), List.map_cons, ih]
    · rw [show numIs p (rowD f) = none from if_neg h, if_neg (by simpa using h), ih]
theorem numNot_row (p : Int) (A : List Fld) : (A.map rowD).filterMap (numNot p) = (A.filter fun f => decide (f.num ≠ p)).map rowD := by
  induction A with
  | nil => rfl
  | cons f A ih =>
    rw [List.map_cons, List.filterMap_cons, List.filter_cons]
    by_cases h : f.num = p
    · rw [show numNot p (rowD f) = none from if_pos h, if_neg (by simpa using h), ih]
    · rw [show numNot p (rowD f) = some (rowD f) from if_neg h, if_pos (by simpa using h), List.map_cons, ih]
theorem name_row (A : List Fld) : (A.map rowD).filterMap nameOf = (A.map Fld.name).map D.str := by
  induction A with
  | nil => rfl
  | cons f A ih => rw [List.map_cons, List.filterMap_cons, show nameOf (rowD f) = some (.str f.name) from rfl, ih]; rfl
theorem strs_nb (ss : List Str) : ∀ y ∈ ss.map D.str, nb 58 y = true := fun y hy => by
  obtain ⟨z, _, rfl⟩ := List.mem_map.mp hy; rfl
theorem mem_strs {z : Str} {ss : List Str} : D.str z ∈ ss.map D.str ↔ z ∈ ss := by simp
/-- a comprehension of a plain function whose body may change what it holds -/
theorem lc_purI {body : D → En → (Option D → En → Prop) → Prop} {K : List D → En → Prop} (f : D → Option D) (J : Nat → En → Prop) : ∀ {xs acc : List D} {env : En} (n : Nat), J n env → acc.length + xs.length ≤ sizeLine →
    (∀ (k : Nat) (x : D) (e : En) (N : Option D → En → Prop), x ∈ xs → J (n + k) e → (∀ e', J (n + k + 1) e' → N (f x) e') → body x e N) → (∀ e, J (n + xs.length) e → K (acc ++ xs.filterMap f) e) → lcLoop body xs acc env K
  | [], acc, env, n, h0, _, _, k => by
    have := k env h0
    rwa [List.filterMap_nil, List.append_nil] at this
  | x :: xs, acc, env, n, h0, hz, hs, k => by
    refine hs 0 x env _ List.mem_cons_self h0 fun e' he => ?_
    rw [List.length_cons] at hz
    have st : ∀ (k : Nat) (y : D) (e : En) (N : Option D → En → Prop), y ∈ xs → J (n + 1 + k) e → (∀ e', J (n + 1 + k + 1) e' → N (f y) e') → body y e N := fun k y e N hy hj hn => by
      have e1 : n + 1 + k = n + (k + 1) := by omega
      rw [e1] at hj
      exact hs (k + 1) y e N (List.mem_cons_of_mem _ hy) hj fun e' h => hn e' (by rw [e1]; exact h)
    have kk : ∀ e, J (n + 1 + xs.length) e → K (acc ++ (x :: xs).filterMap f) e := fun e h => k e (by rw [List.length_cons, ← Nat.add_assoc, Nat.add_right_comm]; exact h)
    cases q : f x with
    | none => exact lc_purI f J (n + 1) he (by omega) st fun e h => by have := kk e h; rwa [List.filterMap_cons, q] at this
    | some y => exact ⟨by omega, lc_purI f J (n + 1) he (by simp; omega) st fun e h => by have := kk e h; rw [List.filterMap_cons, q] at this; simpa using this⟩
def notIn (R : List Str) : D → Option D
  | .str z => if z ∈ R then none else some (.str z)
  | _ => none
theorem notIn_str (R N : List Str) : (N.map D.str).filterMap (notIn R) = (N.filter fun z => decide (z ∉ R)).map D.str := by
  induction N with
  | nil => rfl
  | cons z N ih =>
    rw [List.map_cons, List.filterMap_cons, List.filter_cons]
    by_cases h : z ∈ R
    · rw [show notIn R (.str z) = none from if_pos h, if_neg (by simpa using h), ih]
    · rw [show notIn R (.str z) = some (.str z) from if_neg h, if_pos (by simpa using h), List.map_cons, ih]
theorem call_pick2 {E : XE} {env : En} {i j : Nat} {n : Int} {ds xs : List D} {K : AV → En → Prop} (h : env[i]? = some (some (.olst ds))) (h' : env[j]? = some (some (.olst xs))) (ij : i ≠ j) (dk : Dk n ds) (hn : n ≤ 1000000000) (h1 : 0 < xs.length) (h2 : xs.length < 1073741824)
    (k : ∀ x ds', x ∈ xs → Dk (n + 1) ds' → K (.rv (.d x)) ((env.set i (some (.olst ds'))).set j (some (.olst xs)))) : callDen dn_law_pick [.slot i, .slot j] env K E :=
  ⟨nd_ss ij, [.olst ds, .olst xs], by
    show (match (env[i]?).join with | some x => (match (env[j]?).join with | some y => (gets env []).map (y :: ·) | none => none).map (x :: ·) | none => none) = _
    rw [h, h']; rfl, spec_pick hn dk (.inr rfl) h1 h2 fun x ds' q1 q3 => k x ds' q1 q3⟩
theorem ite_bf {b : Bool} {A B : Prop} (h1 : b = false → A) (h2 : b = true → B) : if b = false then A else B := by
  cases b
  · exact h1 rfl
  · exact h2 rfl
theorem spec_next {n : Int} {ds : List D} {A : List Fld} {P : List Int} {N : List Str} {Q : RV → List RV → Prop} {E : D → List RV → Prop} (hn : n ≤ 600000000) (dk : Dk n ds) (po : PoolOk P N) (sh : ShOk P N A)
    (k : ∀ r B ds', r.fz = .lst (B.map rowD) → ShOk P N B → Dk (n + 20) ds' → Q r [.olst ds', .d (.lst (A.map rowD)), .d (poolD P N)]) : dn_law_next [.olst ds, .d (.lst (A.map rowD)), .d (poolD P N)] Q E := by
  unfold poolD at k ⊢
  refine ⟨rfl, ?_⟩
  unfold ss_law_next
  have lA : A.length ≤ 3 := by rw [← po.l1]; exact sh.len
  have zA : ∀ B : List Fld, B.Sublist A → B.length + 1 ≤ sizeLine := fun B s => by have := s.length_le; rw [sizeLine_eq]; omega
  walk_at "mp"
  refine call_pick (n := n) rfl dk (by omega) (.inl rfl) (by rw [List.length_map, po.l1]; omega) (by rw [List.length_map, po.l1]; omega) fun x ds1 hx dk1 => ?_
  obtain ⟨p, hp, rfl⟩ := List.mem_map.mp hx
  walk_at "mp"
  refine call_draw (n := n + 1) rfl dk1 (by omega) (by omega) (by omega) fun w ds2 w0 w1 dk2 => ?_
  walk_at "mp"
  refine lc_pure (f := numIs p) (by rw [List.length_map, sizeLine_eq]; show 0 + _ ≤ _; omega) (fun x N hx hN => ?_) ?_
  · obtain ⟨f, hf, rfl⟩ := List.mem_map.mp hx
    refine ⟨trivial, _, rfl, ?_⟩
    have t : numIs p (rowD f) = if f.num = p then some (rowD f) else none := rfl
    rw [t] at hN
    walk_at "mp"
    apply ite_dec <;> intro h
    · walk_at "mp"
      rw [if_pos h] at hN
      exact hN
    · rw [if_neg h] at hN
      exact hN
  rw [List.nil_append, numIs_row]
  refine ⟨trivial, ?_⟩
  walk_at "mp"
  refine lc_pure (f := numNot p) (by rw [List.length_map, sizeLine_eq]; show 0 + _ ≤ _; omega) (fun x N hx hN => ?_) ?_
  · obtain ⟨f, hf, rfl⟩ := List.mem_map.mp hx
    refine ⟨trivial, _, rfl, ?_⟩
    have t : numNot p (rowD f) = if f.num = p then none else some (rowD f) := rfl
    rw [t] at hN
    walk_at "mp"
    apply ite_bl <;> intro h
    · walk_at "mp"
      rw [if_neg (by simpa using h)] at hN
      exact hN
    · rw [if_pos (by simpa using h)] at hN
      exact hN
  rw [List.nil_append, numNot_row]
  refine ⟨trivial, ?_⟩
  walk_at "mp"
  generalize hR : List.filter (fun f => decide (f.num ≠ p)) A = R
  generalize hO : List.filter (fun f => decide (f.num = p)) A = O
  have sR : R.Sublist A := by rw [← hR]; exact List.filter_sublist
  have sO : O.Sublist A := by rw [← hO]; exact List.filter_sublist
  have lR := zA R sR
  have shR : ShOk P N R := sh.sub sR
  have nR : ∀ f ∈ R, f.num ≠ p := fun f hf => by rw [← hR] at hf; simpa using (List.mem_filter.mp hf).2
  have nO : ∀ f ∈ O, f.num = p := fun f hf => by rw [← hO] at hf; simpa using (List.mem_filter.mp hf).2
  have pR : p ∉ R.map Fld.num := fun h => by obtain ⟨f, hf, e⟩ := List.mem_map.mp h; exact nR f hf e
  refine lc_purI (f := notIn (R.map Fld.name)) (J := fun k e => ∃ r7, e = [some (.olst ds2), some (.d (.lst (A.map rowD))), some (.d (.tup [.lst (P.map D.int), .lst (N.map D.str)])), some (.d (.int p)), some (.d (.int w)), some (.olst (O.map rowD)), none, some r7, none, none, none] ∧ (k = 0 ∧ r7 = .olst (R.map rowD) ∨ 0 < k ∧ r7 = .d (.lst (R.map rowD)))) 0 ⟨_, rfl, .inl ⟨rfl, rfl⟩⟩ (by rw [List.length_map, po.l2, sizeLine_eq]; decide) (fun k x e NX hx J hN => ?_) (fun e J => ?_)
  · obtain ⟨z, hz, rfl⟩ := List.mem_map.mp hx
    obtain ⟨r7, rfl, J⟩ := J
    have t : notIn (R.map Fld.name) (D.str z) = if z ∈ R.map Fld.name then none else some (.str z) := rfl
    rw [t] at hN
    refine ⟨trivial, _, rfl, ?_⟩
    rcases J with ⟨_, rfl⟩ | ⟨_, rfl⟩
    all_goals
      walk_at "mp"
      refine lc_pure (f := nameOf) (by rw [List.length_map]; show 0 + _ ≤ _; omega) (fun x N2 hx hN2 => ?_) ?_
      · obtain ⟨f, hf, rfl⟩ := List.mem_map.mp hx
        refine ⟨trivial, _, rfl, ?_⟩
        have t : nameOf (rowD f) = some (.str f.name) := rfl
        rw [t] at hN2
        walk_at "mp"
        exact hN2
      rw [List.nil_append, name_row]
      refine ⟨trivial, ?_⟩
      walk_at "mp"
      refine c_2 nd_rr avd_d avd_l (gNin_l rfl (strs_nb _)) ?_
      walk_at "mp"
      apply ite_bl <;> intro h
      · have h : z ∉ R.map Fld.name := by simpa [mem_strs] using h
        walk_at "mp"
        rw [if_neg h] at hN
        exact hN _ ⟨_, rfl, .inr ⟨by omega, rfl⟩⟩
      · have h : z ∈ R.map Fld.name := by simpa [mem_strs] using h
        rw [if_pos h] at hN
        exact hN _ ⟨_, rfl, .inr ⟨by omega, rfl⟩⟩
  obtain ⟨r7, rfl, J⟩ := J
  have J : r7 = .d (.lst (R.map rowD)) := by
    rcases J with ⟨h, _⟩ | ⟨_, h⟩
    · rw [List.length_map, po.l2] at h; omega
    · exact h
  subst J
  rw [List.nil_append, notIn_str]
  generalize hF : (N.filter fun z => decide (z ∉ R.map Fld.name)) = F
  have fF : ∀ z ∈ F, z ∈ N ∧ z ∉ R.map Fld.name := fun z hz => by rw [← hF] at hz; simpa using List.mem_filter.mp hz
  have lF : F.length ≤ 3 := by rw [← po.l2, ← hF]; exact List.length_filter_le ..
  have f0 : 0 < F.length := by
    apply Nat.pos_of_ne_zero
    intro h0
    have h0 := List.length_eq_zero_iff.mp h0
    have s1 : N ⊆ R.map Fld.name := fun z hz => by
      by_cases h : z ∈ R.map Fld.name
      · exact h
      · have : z ∈ F := by rw [← hF]; exact List.mem_filter.mpr ⟨hz, by simpa using h⟩
        rw [h0] at this; cases this
    have l1 := po.d2.length_le_of_subset s1
    have s2 : R.map Fld.num ⊆ P.erase p := fun q hq => by
      obtain ⟨f, hf, rfl⟩ := List.mem_map.mp hq
      exact (List.mem_erase_of_ne (nR f hf)).mpr (shR.n f hf)
    have l2 := shR.dn.length_le_of_subset s2
    rw [List.length_erase_of_mem hp, po.l1, List.length_map] at l2
    rw [po.l2, List.length_map] at l1
    omega
  refine ⟨trivial, ?_⟩
  walk_at "mp"
  apply ite_dec <;> intro h
  · walk_at "mp"
    exact k _ A _ rfl sh (dk2.mono (by omega))
  walk_at "mp"
  apply ite_dec <;> intro h
  · walk_at "mp"
    exact k _ R _ rfl shR (dk2.mono (by omega))
  walk_at "mp"
  apply ite_dec <;> intro h
  · walk_at "mp"
    refine callDeck rfl rfl rfl (spec_start (n := n + 2) (by omega) (dk2.mono (by omega)) po fun B ds3 hB dk3 => ?_)
    walk_at "mpP"
    walk_at "mp"
    exact k _ B _ rfl hB (dk3.mono (by omega))
  walk_at "mp"
  have draw : ∀ (B : List Fld) (f : Fld) (ds' : List D), B = R → f.num = p → FOk f → f.name ∈ N → f.name ∉ R.map Fld.name → Dk (n + 20) ds' → Q (.olst (R.map rowD ++ [rowD f])) [.olst ds', .d (.lst (A.map rowD)), .d (.tup [.lst (P.map D.int), .lst (N.map D.str)])] := fun B f ds' _ h1 h2 h3 h4 h5 =>
    k _ (R ++ [f]) ds' (by rw [List.map_append]; rfl) (shR.add h2 (by rw [h1]; exact hp) h3 (by rw [h1]; exact pR) h4) h5
  have lR2 : (R.map rowD).length + 1 ≤ sizeLine := by rw [List.length_map]; exact lR
  rcases O with _ | ⟨f, O'⟩
  · refine ite_bf (fun h => absurd h (by simp)) fun _ => ?_
    refine ite_bl (fun _ => ?_) (fun h => absurd h (by simp))
    walk_at "mp"
    refine call_pick2 (n := n + 2) (xs := F.map D.str) rfl rfl (by decide) (dk2.mono (by omega)) (by omega) (by rw [List.length_map]; exact f0) (by rw [List.length_map]; omega) fun x ds3 hx dk3 => ?_
    obtain ⟨z, hz, rfl⟩ := List.mem_map.mp hx
    walk_at "mp"
    refine callDeck rfl rfl rfl (spec_field (n := n + 3) (by omega) (dk3.mono (by omega)) fun kd pp ds4 fok dk4 => ?_)
    walk_at "mpP"
    walk_at "mp"
    refine c_2 nd_rr avd_d avd_l (gAdd_l lR2) ?_
    walk_at "mp"
    exact draw R _ _ rfl rfl fok (fF z hz).1 (fF z hz).2 (dk4.mono (by omega))
  have hf : f ∈ A := sO.subset List.mem_cons_self
  have hfp := nO f List.mem_cons_self
  have hfR : f.name ∉ R.map Fld.name := fun h => by
    obtain ⟨g, hg, e⟩ := List.mem_map.mp h
    have := nR g hg
    have hgA := sR.subset hg
    have inj : ∀ {A : List Fld}, (A.map Fld.name).Nodup → f ∈ A → g ∈ A → g.name = f.name → g = f := fun {A} nd h1 h2 e => by
      induction A with
      | nil => cases h1
      | cons a A ih =>
        rw [List.map_cons, List.nodup_cons] at nd
        rcases List.mem_cons.mp h1 with q1 | q1
        · rcases List.mem_cons.mp h2 with q2 | q2
          · rw [q1, q2]
          · exact absurd (List.mem_map.mpr ⟨g, q2, by rw [e, q1]⟩) nd.1
        · rcases List.mem_cons.mp h2 with q2 | q2
          · exact absurd (List.mem_map.mpr ⟨f, q1, by rw [← e, q2]⟩) nd.1
          · exact ih nd.2 q1 q2
    rw [inj sh.dz hf hgA e] at this
    exact this hfp
  refine ite_bf (fun _ => ?_) (fun h => absurd h (by simp))
  walk_at "mp"
  apply ite_dec <;> intro h
  · walk_at "mp"
    refine call_pick2 (n := n + 2) (xs := F.map D.str) rfl rfl (by decide) (dk2.mono (by omega)) (by omega) (by rw [List.length_map]; exact f0) (by rw [List.length_map]; omega) fun x ds3 hx dk3 => ?_
    obtain ⟨z, hz, rfl⟩ := List.mem_map.mp hx
    walk_at "mp"
    refine callDeck rfl rfl rfl (spec_field (n := n + 3) (by omega) (dk3.mono (by omega)) fun kd pp ds4 fok dk4 => ?_)
    walk_at "mpP"
    walk_at "mp"
    refine c_2 nd_rr avd_d avd_l (gAdd_l lR2) ?_
    walk_at "mp"
    exact draw R _ _ rfl rfl fok (fF z hz).1 (fF z hz).2 (dk4.mono (by omega))
  walk_at "mp"
  apply ite_dec <;> intro h
  · walk_at "mp"
    refine callDeck rfl rfl rfl (spec_field (n := n + 3) (by omega) (dk2.mono (by omega)) fun kd pp ds4 fok dk4 => ?_)
    walk_at "mpP"
    walk_at "mp"
    refine c_2 nd_rr avd_d avd_l (gAdd_l lR2) ?_
    walk_at "mp"
    exact draw R _ _ rfl rfl fok (sh.z f hf) hfR (dk4.mono (by omega))
  walk_at "mp"
  have w1 : f.kind = Str.ofString "text" → preOk f.kind (.str (Str.ofString "")) := fun h => .inr (.inl ⟨h, _, rfl, by decide +kernel⟩)
  have w2 : ¬ f.kind = Str.ofString "text" → preOk f.kind (.int 0) := fun h => by
    rcases (sh.f f hf).k with q | q | q | q
    · exact .inr (.inr (.inl ⟨q, _, rfl, by omega, by omega⟩))
    · exact .inr (.inr (.inr (.inl ⟨q, _, rfl, by omega, by omega⟩)))
    · exact .inr (.inr (.inr (.inr ⟨q, _, rfl, by omega, by omega⟩)))
    · exact absurd q h
  apply ite_dec <;> intro h
  all_goals
    walk_at "mp"
    apply ite_bl <;> intro h'
    · walk_at "mp"
      refine c_2 nd_rr avd_d avd_l (gAdd_l lR2) ?_
      walk_at "mp"
      first | exact draw R ⟨p, f.name, f.kind, _⟩ _ rfl rfl ⟨(sh.f f hf).k, w1 h⟩ (sh.z f hf) hfR (dk2.mono (by omega)) | exact draw R ⟨p, f.name, f.kind, _⟩ _ rfl rfl ⟨(sh.f f hf).k, w2 h⟩ (sh.z f hf) hfR (dk2.mono (by omega))
    · walk_at "mp"
      refine c_2 nd_rr avd_d avd_l (gAdd_l lR2) ?_
      walk_at "mp"
      exact draw R ⟨p, f.name, f.kind, _⟩ _ rfl rfl ⟨(sh.f f hf).k, .inl rfl⟩ (sh.z f hf) hfR (dk2.mono (by omega))
/-! ### a chain of shapes -/
def shD (A : List Fld) : D := .lst (A.map rowD)
theorem spec_chain {n : Int} {ds : List D} {m : Int} {P : List Int} {N : List Str} {Q : RV → List RV → Prop} {E : D → List RV → Prop} (hn : n ≤ 500000000) (dk : Dk n ds) (po : PoolOk P N) (m1 : 1 ≤ m) (m2 : m ≤ 12)
    (k : ∀ (As : List (List Fld)) ds', (∀ A ∈ As, ShOk P N A) → (As.length : Int) = m → Dk (n + 300) ds' → Q (.olst (As.map shD)) [.olst ds', .d (poolD P N), .d (.int m)]) : dn_law_chain [.olst ds, .d (poolD P N), .d (.int m)] Q E := by
  refine ⟨rfl, ?_⟩
  unfold ss_law_chain
  walk_at "mp"
  refine callDeck rfl rfl rfl (spec_start (n := n) (by omega) dk po fun A ds1 hA dk1 => ?_)
  walk_at "mpP"
  walk_at "mp"
  refine for0 (I := fun j e => ∃ (ds2 : List D) (As : List (List Fld)) (w : Option RV), e = [some (.olst ds2), some (.d (poolD P N)), some (.d (.int m)), some (.olst (As.map shD)), w] ∧ Dk (n + 15 + 20 * j) ds2 ∧ As.length = j + 1 ∧ ∀ A ∈ As, ShOk P N A)
    ⟨ds1, [A], none, rfl, by simpa using dk1, rfl, by simpa using hA⟩ ?_ ?_
  · rintro j x e NX hx ⟨ds2, As, w, rfl, dk2, hl, hs⟩ hN
    have hj : j < 11 := by have := (List.getElem?_eq_some_iff.mp hx).1; simp [rangeD] at this; omega
    obtain ⟨B, hB⟩ : ∃ B, As[As.length - 1]? = some B := ⟨_, List.getElem?_eq_getElem (by omega)⟩
    refine ⟨_, rfl, ?_⟩
    walk_at "mp"
    refine c_2 nd_sr (avd_sl rfl) avd_d (gIx_l (x := shD B) (atI_last (by rw [List.length_map, List.getElem?_map, hB]; rfl))) ?_
    walk_at "mp"
    refine callDeck rfl rfl rfl (spec_next (n := n + 15 + 20 * j) (by omega) dk2 po (hs B (List.mem_of_getElem? hB)) fun r C ds3 hr hC dk3 => ?_)
    walk_at "mpP"
    refine f_rv ?_
    rw [hr]
    walk_at "mp"
    refine hN _ ⟨ds3, As ++ [C], _, by rw [List.map_append]; rfl, dk3.mono (by omega), by simp; omega, fun A hA => ?_⟩
    rcases List.mem_append.mp hA with h | h
    · exact hs A h
    · simp at h; subst h; exact hC
  · rintro e ⟨ds2, As, w, rfl, dk2, hl, hs⟩
    walk_at "mp"
    have : ((rangeD 0 (m - 1)).length : Int) = m - 1 := by simp [rangeD]; omega
    exact k As ds2 hs (by omega) (dk2.mono (by omega))
/-! ### kinds and words -/
theorem call_isint {E : XE} {env : En} {i : Int} {K : AV → En → Prop} (k : K (.rv (.d (.bl true))) env) : callDen dn_is_integer [.rv (.d (.int i))] env K E := by
  refine callRv (rs := [_]) ⟨rfl, ?_⟩
  unfold ss_is_integer
  walk_at "mp"
  exact k
theorem spec_isword {z : Str} {Q : RV → List RV → Prop} {E : D → List RV → Prop} (h : wordS z) (k : Q (.d (.bl true)) [.d (.str z)]) : dn_is_word [.d (.str z)] Q E := by
  refine ⟨rfl, ?_⟩
  unfold ss_is_word
  have hz := word_size h
  have hzl : z.length ≤ sizeLine := by rw [sizeLine_eq]; omega
  have h1 : 1 ≤ z.length := by rw [← tl_len]; exact h.1
  walk_at "mp"
  refine lc_pure (f := fun _ => some (.bl true)) (by simp [chars, Str.length] at hzl ⊢; exact hzl) (fun x N hx hN => ?_) ?_
  · obtain ⟨c, hc, rfl⟩ := List.mem_map.mp hx
    have h26 := h.2.2 c hc
    refine ⟨trivial, _, rfl, ?_⟩
    walk_at "mp"
    have hm : c ∈ (Str.ofString "abcdefghijklmnopqrstuvwxyz").cps.toList := by rw [abc]; simp; omega
    refine c_2 nd_rr avd_d avd_d (show _ = some (.d (.bl true)) by show some (RV.d (.bl (decide _))) = _; rw [decide_eq_true hm]) ?_
    walk_at "mp"
    exact hN
  have e : ([] : List D) ++ (chars z).filterMap (fun _ => some (D.bl true)) = ((chars z).map fun _ => true).map D.bl := by
    rw [List.nil_append]
    induction chars z with
    | nil => rfl
    | cons a l ih => rw [List.filterMap_cons]; simp only [List.map_cons]; rw [ih]
  rw [e]
  refine ⟨trivial, ?_⟩
  walk_at "mp"
  have e2 : ((chars z).map fun _ => true).all id = true := by simp
  rw [e2]
  exact k
theorem call_isword {E : XE} {env : En} {z : Str} {K : AV → En → Prop} (h : wordS z) (k : K (.rv (.d (.bl true))) env) : callDen dn_is_word [.rv (.d (.str z))] env K E := callRv (rs := [_]) (spec_isword h k)
/-! ### a field made -/
theorem spec_holds {kd : Str} {p : D} {Q : RV → List RV → Prop} {E : D → List RV → Prop} (h : preOk kd p) (hp : p ≠ .non) (k : Q (.d (.bl true)) [.d (.str kd), .d p]) : dn_Kind_holds [.d (.str kd), .d p] Q E := by
  refine ⟨rfl, ?_⟩
  unfold ss_Kind_holds
  rcases h with h | ⟨rfl, z, rfl, h⟩ | ⟨rfl, i, rfl, h, h2⟩ | ⟨rfl, i, rfl, h, h2⟩ | ⟨rfl, i, rfl, h, h2⟩
  · exact absurd h hp
  · have hzl : z.length ≤ sizeLine := by rw [sizeLine_eq]; omega
    walk_at "mp"
    rw [decide_eq_true (by omega)]
    exact k
  all_goals
    walk_at "mp"
    refine call_isint ?_
    walk_at "mp"
    rw [decide_eq_true (by omega)]
    exact k
theorem call_holds {E : XE} {env : En} {kd : Str} {p : D} {K : AV → En → Prop} (h : preOk kd p) (hp : p ≠ .non) (k : K (.rv (.d (.bl true))) env) : callDen dn_Kind_holds [.rv (.d (.str kd)), .rv (.d p)] env K E := callRv (rs := [_, _]) (spec_holds h hp k)
structure FFOk (f : Fld) : Prop extends FOk f where
  n : 1 ≤ f.num ∧ f.num ≤ 999999
  w : wordS f.name
theorem spec_finit {f : Fld} {Q : RV → List RV → Prop} {E : D → List RV → Prop} (h : FFOk f) (k : Q (.d .non) [.oins (Str.ofString "Field") [(Str.ofString "number", .int f.num), (Str.ofString "name", .str f.name), (Str.ofString "kind", .str f.kind), (Str.ofString "preset", f.pre)], .d (.int f.num), .d (.str f.name), .d (.str f.kind), .d f.pre]) :
    dn_Field_init [.oins (Str.ofString "Field") [], .d (.int f.num), .d (.str f.name), .d (.str f.kind), .d f.pre] Q E := by
  refine ⟨rfl, ?_⟩
  unfold ss_Field_init
  obtain ⟨n1, n2⟩ := h.n
  walk_at "mp"
  refine call_isint ?_
  walk_at "mp"
  refine call_isword h.w ?_
  walk_at "mp"
  have kin : D.str f.kind ∈ [D.str (Str.ofString "small"), .str (Str.ofString "whole"), .str (Str.ofString "signed"), .str (Str.ofString "text")] := by
    simp only [List.mem_cons, D.str.injEq, List.not_mem_nil, or_false]; exact h.k
  refine c_2 nd_rr avd_d avd_d (show _ = some (.d (.bl false)) from (gNin_t rfl (fun y hy => by
    simp only [List.mem_cons, List.not_mem_nil, or_false] at hy
    rcases hy with rfl | rfl | rfl | rfl <;> rfl)).trans (by rw [decide_eq_true kin]; rfl)) ?_
  walk_at "mp"
  apply ite_bl <;> intro hp
  · walk_at "mp"
    have hp : f.pre ≠ .non := fun e => by rw [e] at hp; cases hp
    refine callRv (rs := [_, _, _]) ⟨_, _, rfl, spec_holds h.p hp ?_⟩
    walk_at "mp"
    exact k
  · refine ite_bl (fun h' => absurd (h'.symm.trans hp) (by decide)) fun _ => ?_
    walk_at "mp"
    exact k
theorem call_field {E : XE} {env : En} {f : Fld} {K : AV → En → Prop} (h : FFOk f) (k : K (.rv (.oins (Str.ofString "Field") [(Str.ofString "number", .int f.num), (Str.ofString "name", .str f.name), (Str.ofString "kind", .str f.kind), (Str.ofString "preset", f.pre)])) env) :
    callDen (mkD "Field" dn_Field_init) [.rv (.d (.int f.num)), .rv (.d (.str f.name)), .rv (.d (.str f.kind)), .rv (.d f.pre)] env K E :=
  callRv (rs := [_, _, _, _]) (spec_finit h ⟨rfl, _, _, rfl, k⟩)
/-! ### editions made -/
theorem spec_clashes {R : List Fld} {f : Fld} {r : RV} {Q : RV → List RV → Prop} {E : D → List RV → Prop} (hr : r = .olst (R.map fldD) ∨ r = .d (.lst (R.map fldD))) (hz : R.length < 1000) (h : ∀ g ∈ R, g.num ≠ f.num ∧ g.name ≠ f.name)
    (k : Q (.d (.bl false)) [.d (.lst (R.map fldD)), .d (fldD f)]) : dn_clashes [r, .d (fldD f)] Q E := by
  rcases hr with rfl | rfl
  all_goals
    refine ⟨rfl, ?_⟩
    unfold ss_clashes
    walk_at "mp"
    refine lc_pure (f := fun _ => some (.bl false)) (by rw [List.length_map, sizeLine_eq]; show 0 + _ ≤ _; omega) (fun x N hx hN => ?_) ?_
    · obtain ⟨g, hg, rfl⟩ := List.mem_map.mp hx
      obtain ⟨h1, h2⟩ := h g hg
      refine ⟨trivial, _, rfl, ?_⟩
      walk_at "mp"
      rw [decide_eq_false h2]
      exact hN
    have e : ([] : List D) ++ (R.map fldD).filterMap (fun _ => some (D.bl false)) = ((R.map fldD).map fun _ => false).map D.bl := by
      rw [List.nil_append]
      induction R.map fldD with
      | nil => rfl
      | cons a l ih => rw [List.filterMap_cons]; simp only [List.map_cons]; rw [ih]
    rw [e]
    refine ⟨trivial, ?_⟩
    walk_at "mp"
    have e2 : ((R.map fldD).map fun _ => false).any id = false := by simp
    rw [e2]
    exact k
/-! ### editions -/
def insF (R : List Fld) (f : Fld) : List Fld := (R.filter fun g => decide (g.num < f.num)) ++ f :: R.drop (R.filter fun g => decide (g.num < f.num)).length
abbrev Srt (R : List Fld) : Prop := R.Pairwise fun a b => a.num < b.num
theorem insF_ok : ∀ {R : List Fld} {f : Fld}, Srt R → (∀ g ∈ R, g.num ≠ f.num) → Srt (insF R f) ∧ (insF R f).Perm (f :: R)
  | [], f, _, _ => ⟨by simp [insF, Srt], by simp [insF]⟩
  | g :: R, f, s, h => by
    obtain ⟨s1, s2⟩ := List.pairwise_cons.mp s
    by_cases c : g.num < f.num
    · have e : insF (g :: R) f = g :: insF R f := by
        unfold insF
        rw [List.filter_cons, if_pos (by simpa using c)]
        rfl
      obtain ⟨i1, i2⟩ := insF_ok s2 fun x hx => h x (List.mem_cons_of_mem _ hx)
      rw [e]
      refine ⟨List.pairwise_cons.mpr ⟨fun x hx => ?_, i1⟩, (i2.cons g).trans (.swap ..)⟩
      rcases List.mem_cons.mp (i2.subset hx) with rfl | hx
      · exact c
      · exact s1 x hx
    · have c2 : f.num < g.num := by have := h g List.mem_cons_self; omega
      have e : (g :: R).filter (fun x => decide (x.num < f.num)) = [] := List.filter_eq_nil_iff.mpr fun x hx => by
        rcases List.mem_cons.mp hx with rfl | hx
        · simpa using c
        · have := s1 x hx; simp; omega
      have e2 : insF (g :: R) f = f :: g :: R := by unfold insF; rw [e]; rfl
      rw [e2]
      refine ⟨List.pairwise_cons.mpr ⟨fun x hx => ?_, s⟩, .refl _⟩
      rcases List.mem_cons.mp hx with rfl | hx
      · exact c2
      · have := s1 x hx; omega
noncomputable def numLt (p : Int) (fs : List Fld) : D → Option D := fun x => if ∃ f ∈ fs, x = fldD f ∧ f.num < p then some x else none
theorem fldD_inj {f g : Fld} (h : fldD f = fldD g) : f = g := by
  unfold fldD at h
  simp only [D.ins.injEq, List.cons.injEq, Prod.mk.injEq, D.int.injEq, D.str.injEq, true_and, and_true] at h
  obtain ⟨h1, h2, h3, h4⟩ := h
  cases f; cases g
  simp_all
theorem numLt_f (p : Int) {R : List Fld} {f : Fld} (hf : f ∈ R) : numLt p R (fldD f) = if f.num < p then some (fldD f) else none := by
  unfold numLt
  by_cases h : f.num < p
  · rw [if_pos h, if_pos ⟨f, hf, rfl, h⟩]
  · rw [if_neg h, if_neg fun ⟨g, _, e, hg⟩ => h (by rw [fldD_inj e]; exact hg)]
theorem numLt_map (p : Int) (R : List Fld) : (R.map fldD).filterMap (numLt p R) = (R.filter fun f => decide (f.num < p)).map fldD := by
  have : ∀ (T : List Fld), (∀ f ∈ T, f ∈ R) → (T.map fldD).filterMap (numLt p R) = (T.filter fun f => decide (f.num < p)).map fldD := fun T h => by
    induction T with
    | nil => rfl
    | cons f T ih =>
      rw [List.map_cons, List.filterMap_cons, List.filter_cons, numLt_f p (h f List.mem_cons_self)]
      have ih := ih fun g hg => h g (List.mem_cons_of_mem _ hg)
      by_cases c : f.num < p
      · rw [if_pos c, if_pos (by simpa using c), List.map_cons, ih]
      · rw [if_neg c, if_neg (by simpa using c), ih]
  exact this R fun f h => h
theorem cut_from {xs : List D} {k : Nat} (h : k ≤ xs.length) : gSl true false [.lst xs, .int (k : Int)] = some (.olst (xs.drop k)) := by
  show some (RV.olst (cutL xs (some (k : Int)) none)) = _
  unfold cutL
  rw [HT.sIx_nat, HT.sIx_none, Nat.min_eq_left h]
  rw [List.take_of_length_le (by simp)]
theorem spec_inserted {R : List Fld} {f : Fld} {r : RV} {Q : RV → List RV → Prop} {E : D → List RV → Prop} (hr : r = .olst (R.map fldD) ∨ r = .d (.lst (R.map fldD))) (hz : R.length < 1000)
    (k : Q (.olst ((insF R f).map fldD)) [.d (.lst (R.map fldD)), .d (fldD f)]) : dn_inserted [r, .d (fldD f)] Q E := by
  have hl : (R.filter fun g => decide (g.num < f.num)).length ≤ R.length := List.length_filter_le ..
  have e : (insF R f).map fldD = (R.filter fun g => decide (g.num < f.num)).map fldD ++ fldD f :: (R.map fldD).drop ((R.filter fun g => decide (g.num < f.num)).map fldD).length := by
    unfold insF; rw [List.map_append, List.map_cons, List.length_map, List.map_drop]
  have e2 : (insF R f).length ≤ 2001 := by unfold insF; simp; omega
  rcases hr with rfl | rfl
  all_goals
    refine ⟨rfl, ?_⟩
    unfold ss_inserted
    walk_at "mp"
    refine lc_pure (f := numLt f.num R) (by rw [List.length_map, sizeLine_eq]; show 0 + _ ≤ _; omega) (fun x N hx hN => ?_) ?_
    · obtain ⟨g, hg, rfl⟩ := List.mem_map.mp hx
      rw [numLt_f _ hg] at hN
      refine ⟨trivial, _, rfl, ?_⟩
      walk_at "mp"
      apply ite_dec <;> intro h
      · rw [if_pos h] at hN
        walk_at "mp"
        exact hN
      · rw [if_neg h] at hN
        exact hN
    rw [List.nil_append, numLt_map]
    refine ⟨trivial, ?_⟩
    walk_at "mp"
    refine c_2 nd_rr avd_d avd_d (cut_from (by rw [List.length_map, List.length_map]; exact hl)) ?_
    walk_at "mp"
    rw [List.append_nil, ← e]
    refine ⟨by rw [List.length_map, sizeLine_eq]; omega, ?_⟩
    walk_at "mp"
    exact k
theorem spec_edinit {A : List Fld} {Q : RV → List RV → Prop} {E : D → List RV → Prop} (hz : A.length ≤ 80) (h1 : (A.map Fld.num).Nodup) (h2 : (A.map Fld.name).Nodup)
    (k : ∀ S, S.Perm A → Srt S → Q (.d .non) [.oins (Str.ofString "Edition") [(Str.ofString "fields", .tup (S.map fldD))], .olst (A.map fldD)]) : dn_Edition_init [.oins (Str.ofString "Edition") [], .olst (A.map fldD)] Q E := by
  refine ⟨rfl, ?_⟩
  unfold ss_Edition_init
  walk_at "mp"
  refine for0 (I := fun j e => ∃ (R : List Fld) (w w' : Option RV), e = [some (.oins (Str.ofString "Edition") []), some (.olst (A.map fldD)), some (.olst (R.map fldD)), w, w'] ∧ R.Perm (A.take j) ∧ Srt R) ⟨[], none, none, rfl, .refl _, .nil⟩ ?_ ?_
  · rintro j x e NX hx ⟨R, w, w', rfl, hp, hs⟩ hN
    obtain ⟨f, hf, rfl⟩ : ∃ f, A[j]? = some f ∧ x = .tup [.int (j : Nat), fldD f] := by
      unfold enumD at hx
      rw [List.getElem?_map, List.getElem?_zipIdx, List.getElem?_map] at hx
      cases e : A[j]? with
      | none => rw [e] at hx; cases hx
      | some f => rw [e] at hx; exact ⟨f, rfl, by simpa using hx.symm⟩
    have hj : j < A.length := (List.getElem?_eq_some_iff.mp hf).1
    have eA : A.take (j + 1) = A.take j ++ [f] := by rw [List.take_add_one, hf]; rfl
    have sub : (A.take j ++ [f]).Sublist A := by rw [← eA]; exact List.take_sublist ..
    have n1 := List.Nodup.sublist (sub.map Fld.num) h1
    have n2 := List.Nodup.sublist (sub.map Fld.name) h2
    rw [List.map_append, List.nodup_append] at n1 n2
    have hR : ∀ g ∈ R, g.num ≠ f.num ∧ g.name ≠ f.name := fun g hg =>
      ⟨n1.2.2 _ (List.mem_map.mpr ⟨g, hp.subset hg, rfl⟩) _ (by simp), n2.2.2 _ (List.mem_map.mpr ⟨g, hp.subset hg, rfl⟩) _ (by simp)⟩
    have hlR : R.length < 1000 := by have := hp.length_eq; rw [List.length_take] at this; omega
    refine ⟨_, rfl, ?_⟩
    walk_at "mp"
    refine callDeck rfl rfl rfl (spec_clashes (.inl rfl) hlR hR ?_)
    walk_at "mpP"
    walk_at "mp"
    refine callRv (rs := [_, _]) (spec_inserted (.inr rfl) hlR ?_)
    walk_at "mp"
    obtain ⟨i1, i2⟩ := insF_ok (f := f) hs fun g hg => (hR g hg).1
    exact hN _ ⟨insF R f, _, _, rfl, by rw [eA]; exact i2.trans ((hp.cons f).trans (List.perm_append_singleton f _).symm), i1⟩
  · rintro e ⟨R, w, w', rfl, hp, hs⟩
    have hl : (enumD (A.map fldD)).length = A.length := by simp [enumD]
    rw [hl, List.take_length] at hp
    walk_at "mp"
    exact k R hp hs
/-! ### the law's edition -/
theorem spec_edition {P : List Int} {N : List Str} {A : List Fld} {Q : RV → List RV → Prop} {E : D → List RV → Prop} (po : PoolOk P N) (sh : ShOk P N A) (k : ∀ S r, S.Perm A → Srt S → r.fz = edD S → Q r [.d (shD A)]) : dn_law_edition [.d (shD A)] Q E := by
  refine ⟨rfl, ?_⟩
  unfold ss_law_edition
  have lA : A.length ≤ 3 := by rw [← po.l1]; exact sh.len
  unfold shD at k ⊢
  walk_at "mp"
  refine lc0 (I := fun j acc e => e = [some (.d (.lst (A.map rowD))), none] ∧ acc = (A.take j).map fldD) ⟨rfl, rfl⟩ ?_ ?_
  · rintro j x acc e NX hx ⟨rfl, rfl⟩ hN
    rw [List.getElem?_map, Option.map_eq_some_iff] at hx
    obtain ⟨f, hf, rfl⟩ := hx
    have hfA := List.mem_of_getElem? hf
    have eA : A.take (j + 1) = A.take j ++ [f] := by rw [List.take_add_one, hf]; rfl
    refine ⟨trivial, _, rfl, ?_⟩
    walk_at "mp"
    refine call_field ⟨sh.f f hfA, po.r _ (sh.n f hfA), po.w _ (sh.z f hfA)⟩ ?_
    walk_at "mp"
    exact hN (some (fldD f)) _ ⟨by rw [List.length_map, List.length_take, sizeLine_eq]; omega, rfl, by rw [eA, List.map_append]; rfl⟩
  · rintro acc e ⟨rfl, rfl⟩
    rw [List.length_map, List.take_length]
    refine ⟨trivial, ?_⟩
    walk_at "mp"
    refine callRv (rs := [_]) (spec_edinit (by omega) sh.dn sh.dz fun S hp hs => ⟨rfl, _, _, rfl, ?_⟩)
    walk_at "mp"
    exact k S _ hp hs rfl
/-! ### the program's changes -/
theorem scl_pre {k : Str} {d : D} (h : preOk k d) : scl d = true := by
  rcases h with rfl | ⟨_, z, rfl, _⟩ | ⟨_, i, rfl, _⟩ | ⟨_, i, rfl, _⟩ | ⟨_, i, rfl, _⟩ <;> rfl
def strsL (l : List Str) : List D := l.map D.str
theorem spec_kind {a b : Str} {Q : RV → List RV → Prop} {E : D → List RV → Prop} (k : Q (.olst (strsL (kindC a b))) [.d (.str a), .d (.str b)]) : dn_kind_changes [.d (.str a), .d (.str b)] Q E := by
  refine ⟨rfl, ?_⟩
  unfold ss_kind_changes
  unfold kindC at k
  walk_at "mp"
  apply ite_dec <;> intro h
  · rw [if_pos h] at k
    walk_at "mp"
    exact k
  rw [if_neg h] at k
  walk_at "mp"
  apply ite_dec0 <;> intro h1
  · rw [if_pos (.inl h1)] at k
    rw [decide_eq_true h1]
    walk_at "mp"
    exact k
  walk_at "mp"
  apply ite_dec <;> intro h2
  · rw [if_pos (.inr h2)] at k
    walk_at "mp"
    exact k
  rw [if_neg (fun e => e.elim h1 h2)] at k
  walk_at "mp"
  apply ite_dec0 <;> intro h1
  · rw [if_pos (.inl h1)] at k
    rw [decide_eq_true h1]
    walk_at "mp"
    exact k
  walk_at "mp"
  apply ite_dec <;> intro h2
  · rw [if_pos (.inr h2)] at k
    walk_at "mp"
    exact k
  rw [if_neg (fun e => e.elim h1 h2)] at k
  walk_at "mp"
  apply ite_dec <;> intro h
  · rw [if_pos h] at k
    walk_at "mp"
    exact k
  rw [if_neg h] at k
  walk_at "mp"
  exact k
theorem spec_left {f : Fld} {Q : RV → List RV → Prop} {E : D → List RV → Prop} (k : Q (.d (.str (leftC f))) [.d (fldD f)]) : dn_left [.d (fldD f)] Q E := by
  refine ⟨rfl, ?_⟩
  unfold ss_left
  unfold leftC at k
  walk_at "mp"
  apply ite_bl <;> intro h
  · rw [if_pos h] at k
    walk_at "mp"
    exact k
  · rw [if_neg (by rw [h]; decide)] at k
    walk_at "mp"
    exact k
theorem spec_come {f : Fld} {Q : RV → List RV → Prop} {E : D → List RV → Prop} (k : Q (.d (.str (comeC f))) [.d (fldD f)]) : dn_come [.d (fldD f)] Q E := by
  refine ⟨rfl, ?_⟩
  unfold ss_come
  unfold comeC at k
  walk_at "mp"
  apply ite_bl <;> intro h
  · rw [if_pos h] at k
    walk_at "mp"
    exact k
  · rw [if_neg (by rw [h]; decide)] at k
    walk_at "mp"
    exact k
theorem spec_kept {f g : Fld} {Q : RV → List RV → Prop} {E : D → List RV → Prop} (hf : FOk f) (hg : FOk g) (k : Q (.olst (strsL (keptC f g))) [.d (fldD f), .d (fldD g)]) : dn_kept_changes [.d (fldD f), .d (fldD g)] Q E := by
  refine ⟨rfl, ?_⟩
  unfold ss_kept_changes
  unfold keptC preC strsL at k
  have lk : (kindC f.kind g.kind).length ≤ 1 := by unfold kindC; split <;> (try split) <;> (try split) <;> (try split) <;> simp
  have s1 := scl_pre hf.p
  have s2 := scl_pre hg.p
  have rest : ∀ L : List Str, L.length ≤ 1 → (Q (.olst (strsL (L ++ kindC f.kind g.kind))) [.d (fldD f), .d (fldD g)]) → (strsL L).length + (strsL (kindC f.kind g.kind)).length ≤ sizeLine := fun L h _ => by simp [strsL, sizeLine_eq]; omega
  have tail : ∀ L : List Str, L.length ≤ 1 → gAdd [.lst (strsL L), .lst (strsL (kindC f.kind g.kind))] = some (.olst (strsL (L ++ kindC f.kind g.kind))) := fun L h => by
    rw [gAdd_l (by simp [strsL, sizeLine_eq]; omega)]; simp [strsL]
  cases e1 : isN f.pre <;> cases e2 : isN g.pre
  · rw [if_neg (by rw [e1]; decide), if_neg (by rw [e2]; decide)] at k
    walk_at "mp"
    refine c_2 nd_rr avd_d avd_d (gNe_scl s1 s2) ?_
    walk_at "mp"
    apply ite_ndec <;> intro h
    · rw [if_pos h] at k
      walk_at "mp"
      refine callRv (rs := [_, _]) (spec_kind ?_)
      walk_at "mp"
      refine c_2 nd_sr (avd_sl rfl) avd_l (tail [] (by decide)) ?_
      walk_at "mp"
      exact k
    · rw [if_neg h] at k
      walk_at "mp"
      refine callRv (rs := [_, _]) (spec_kind ?_)
      walk_at "mp"
      refine c_2 nd_sr (avd_sl rfl) avd_l (tail [Str.ofString "preset"] (by decide)) ?_
      walk_at "mp"
      exact k
  · rw [if_neg (by rw [e1]; decide), if_pos e2] at k
    walk_at "mp"
    refine callRv (rs := [_, _]) (spec_kind ?_)
    walk_at "mp"
    refine c_2 nd_sr (avd_sl rfl) avd_l (tail [Str.ofString "need"] (by decide)) ?_
    walk_at "mp"
    exact k
  · rw [if_pos e1, if_neg (by rw [e2]; decide)] at k
    walk_at "mp"
    refine callRv (rs := [_, _]) (spec_kind ?_)
    walk_at "mp"
    refine c_2 nd_sr (avd_sl rfl) avd_l (tail [Str.ofString "ease"] (by decide)) ?_
    walk_at "mp"
    exact k
  · rw [if_pos e1, if_pos e2] at k
    walk_at "mp"
    refine callRv (rs := [_, _]) (spec_kind ?_)
    walk_at "mp"
    refine c_2 nd_sr (avd_sl rfl) avd_l (tail [] (by decide)) ?_
    walk_at "mp"
    exact k
/-- a field or none -/
def optD : Option Fld → D
  | some f => fldD f
  | none => .non
theorem spec_fieldc {x y : Option Fld} {Q : RV → List RV → Prop} {E : D → List RV → Prop} (hx : ∀ f, x = some f → FOk f) (hy : ∀ f, y = some f → FOk f) (k : Q (.olst (strsL (fieldC x y))) [.d (optD x), .d (optD y)]) : dn_field_changes [.d (optD x), .d (optD y)] Q E := by
  refine ⟨rfl, ?_⟩
  unfold ss_field_changes
  cases x with
  | none => cases y with
    | none =>
      unfold optD at k ⊢
      walk_at "mp"
      exact k
    | some g =>
      unfold optD at k ⊢
      walk_at "mp"
      refine callRv (rs := [_]) (spec_come ?_)
      walk_at "mp"
      exact k
  | some f => cases y with
    | none =>
      unfold optD at k ⊢
      walk_at "mp"
      refine callRv (rs := [_]) (spec_left ?_)
      walk_at "mp"
      exact k
    | some g =>
      have k : Q (.olst (strsL (fieldC (some f) (some g)))) [.d (fldD f), .d (fldD g)] := k
      rw [fieldC_ss] at k
      show denSs _ _ _ (List.map some [.d (fldD f), .d (fldD g)] ++ List.replicate (2 - 2) none) { nx := fun env => Q (.d .non) (behind [.d (fldD f), .d (fldD g)] env), rt := fun r env => Q r (behind [.d (fldD f), .d (fldD g)] env) }
      walk_at "mp"
      apply ite_dec <;> intro h
      · rw [if_pos h] at k
        walk_at "mp"
        refine callRv (rs := [.d (fldD f), .d (fldD g)]) (spec_kept (hx f rfl) (hy g rfl) ?_)
        walk_at "mp"
        exact k
      · rw [if_neg h] at k
        walk_at "mp"
        refine callRv (rs := [.d (fldD f)]) (spec_left ?_)
        walk_at "mp"
        refine callRv (rs := [.d (fldD g)]) (spec_come ?_)
        walk_at "mp"
        exact k
/-! ### homes of numbers and names -/
theorem put_new {kvs : List (Key × D)} {k : Key} {v : D} (h : k ∉ kvs.map (·.1)) : putD kvs k v = kvs ++ [(k, v)] := by
  unfold putD
  rw [if_neg]
  intro h'
  obtain ⟨p, hp, e⟩ := List.any_eq_true.mp h'
  exact h (List.mem_map.mpr ⟨p, hp, by simpa using e⟩)
theorem merge_new : ∀ {l acc : List (Key × D)}, ((acc ++ l).map (·.1)).Nodup → mergeD acc l = acc ++ l
  | [], acc, _ => by rw [List.append_nil]; rfl
  | (k, v) :: l, acc, nd => by
    show mergeD (putD acc k v) l = _
    have h : k ∉ acc.map (·.1) := fun h => by
      rw [List.map_append, List.nodup_append] at nd
      exact nd.2.2 _ h k (by simp) rfl
    rw [put_new h, merge_new (by rw [List.append_assoc]; exact nd), List.append_assoc]; rfl
theorem put_keys {kvs : List (Key × D)} {k k' : Key} {v : D} : k' ∈ (putD kvs k v).map (·.1) ↔ k' = k ∨ k' ∈ kvs.map (·.1) := by
  unfold putD
  split
  · rename_i h
    obtain ⟨p, hp, e⟩ := List.any_eq_true.mp h
    have e : p.1 = k := by simpa using e
    have : (kvs.map fun p => if p.1 = k then (p.1, v) else p).map (·.1) = kvs.map (·.1) := by
      rw [List.map_map]; exact List.map_congr_left fun q _ => by simp only [Function.comp]; split <;> rfl
    rw [this]
    exact ⟨.inr, fun h => h.elim (fun h => h ▸ List.mem_map.mpr ⟨p, hp, e⟩) id⟩
  · rw [List.map_append, List.mem_append]; simp; exact Or.comm
theorem merge_keys : ∀ {l acc : List (Key × D)} {k : Key}, k ∈ (mergeD acc l).map (·.1) ↔ k ∈ acc.map (·.1) ∨ k ∈ l.map (·.1)
  | [], acc, k => by simp [mergeD]
  | (k', v) :: l, acc, k => by
    show k ∈ (mergeD (putD acc k' v) l).map (·.1) ↔ _
    rw [merge_keys, put_keys, List.map_cons, List.mem_cons]
    constructor
    · rintro ((h | h) | h)
      · exact .inr (.inl h)
      · exact .inl h
      · exact .inr (.inr h)
    · rintro (h | h | h)
      · exact .inl (.inr h)
      · exact .inl (.inl h)
      · exact .inr h
theorem put_len (kvs : List (Key × D)) (k : Key) (v : D) : (putD kvs k v).length ≤ kvs.length + 1 := by
  unfold putD
  split <;> simp
theorem merge_len : ∀ (l acc : List (Key × D)), (mergeD acc l).length ≤ acc.length + l.length
  | [], acc => by simp [mergeD]
  | (k', v) :: l, acc => by
    show (mergeD (putD acc k' v) l).length ≤ _
    have := merge_len l (putD acc k' v)
    have := put_len acc k' v
    rw [List.length_cons]; omega
def bnD (S : List Fld) : List (Key × D) := S.map fun f => (Sum.inl f.num, fldD f)
def nmD (S : List Fld) : List (Key × D) := S.map fun f => (Sum.inr f.name, .int f.num)
def lookN (S : List Fld) (z : Str) : Option Fld := S.find? fun f => decide (f.name = z)
theorem bn_keys (S : List Fld) : (bnD S).map (·.1) = (S.map Fld.num).map Sum.inl := by unfold bnD; rw [List.map_map, List.map_map]; rfl
theorem nm_keys (S : List Fld) : (nmD S).map (·.1) = (S.map Fld.name).map Sum.inr := by unfold nmD; rw [List.map_map, List.map_map]; rfl
theorem nodup_inj {α β : Type} {f : α → β} (hf : ∀ a b, f a = f b → a = b) {l : List α} (h : l.Nodup) : (l.map f).Nodup := List.Pairwise.map f (fun a b h e => h (hf a b e)) h
theorem bn_get (S : List Fld) (n : Int) : getD (bnD S) (.inl n) = (look S n).map fldD := by
  unfold getD bnD look
  induction S with
  | nil => rfl
  | cons f S ih =>
    rw [List.map_cons, List.find?_cons, List.find?_cons]
    by_cases h : f.num = n
    · simp [h]
    · simp only [h, decide_false, Sum.inl.injEq]; exact ih
theorem nm_get (S : List Fld) (z : Str) : getD (nmD S) (.inr z) = (lookN S z).map fun f => .int f.num := by
  unfold getD nmD lookN
  induction S with
  | nil => rfl
  | cons f S ih =>
    rw [List.map_cons, List.find?_cons, List.find?_cons]
    by_cases h : f.name = z
    · simp [h]
    · simp only [h, decide_false, Sum.inr.injEq]; exact ih
theorem bn_opt (S : List Fld) (n : Int) : (getD (bnD S) (.inl n)).getD .non = optD (look S n) := by
  rw [bn_get]; cases look S n <;> rfl
/-- an edition's fields: few, numbers and names distinct -/
structure EdOk (S : List Fld) : Prop where
  l : S.length ≤ 80
  f : ∀ f ∈ S, FOk f
  dn : (S.map Fld.num).Nodup
  dz : (S.map Fld.name).Nodup
theorem lookN_of {A : List Fld} {f : Fld} (nd : (A.map Fld.name).Nodup) (h : f ∈ A) : lookN A f.name = some f := by
  induction A with
  | nil => cases h
  | cons a A ih =>
    rw [List.map_cons, List.nodup_cons] at nd
    unfold lookN
    rw [List.find?_cons]
    rcases List.mem_cons.mp h with rfl | h
    · simp
    · have : a.name ≠ f.name := fun e => nd.1 (List.mem_map.mpr ⟨f, h, e.symm⟩)
      rw [decide_eq_false this]
      exact ih nd.2 h
def numK : D → Option (Key × D)
  | .ins c ((k, .int i) :: r) => some (.inl i, .ins c ((k, .int i) :: r))
  | _ => none
def nameK : D → Option (Key × D)
  | .ins _ ((_, .int i) :: (_, .str z) :: _) => some (.inr z, .int i)
  | _ => none
theorem numK_map (S : List Fld) : (S.map fldD).filterMap numK = bnD S := by
  unfold bnD
  induction S with
  | nil => rfl
  | cons f S ih => rw [List.map_cons, List.filterMap_cons, show numK (fldD f) = some (.inl f.num, fldD f) from rfl, ih]; rfl
theorem nameK_map (S : List Fld) : (S.map fldD).filterMap nameK = nmD S := by
  unfold nmD
  induction S with
  | nil => rfl
  | cons f S ih => rw [List.map_cons, List.filterMap_cons, show nameK (fldD f) = some (.inr f.name, .int f.num) from rfl, ih]; rfl
theorem spec_bynum {S : List Fld} {Q : RV → List RV → Prop} {E : D → List RV → Prop} (h : EdOk S) (k : Q (.odic (bnD S)) [.d (edD S)]) : dn_by_number [.d (edD S)] Q E := by
  refine ⟨rfl, ?_⟩
  unfold ss_by_number
  have hl := h.l
  walk_at "mp"
  refine dc_pure (f := numK) (by rw [List.length_map, sizeLine_eq]; show 0 + _ ≤ _; omega) (fun x N hx hN => ?_) ?_
  · obtain ⟨f, hf, rfl⟩ := List.mem_map.mp hx
    refine ⟨_, rfl, ?_⟩
    walk_at "mp"
    exact hN
  rw [numK_map, merge_new (by rw [List.nil_append, bn_keys]; exact nodup_inj (fun a b e => Sum.inl.inj e) h.dn), List.nil_append]
  walk_at "mp"
  exact k
def mvL (S T : List Fld) : List Int := (T.filter fun g => decide (∃ a ∈ S, a.name = g.name ∧ a.num ≠ g.num)).map Fld.num
theorem mv_mem {S T : List Fld} {n : Int} : n ∈ mvL S T ↔ moveP S T n := by
  unfold mvL moveP
  constructor
  · intro h
    obtain ⟨g, hg, rfl⟩ := List.mem_map.mp h
    obtain ⟨h1, h2⟩ := List.mem_filter.mp hg
    obtain ⟨a, ha, e, ne⟩ := of_decide_eq_true h2
    exact ⟨a, ha, g, h1, e, rfl, ne⟩
  · rintro ⟨a, ha, b, hb, e, rfl, ne⟩
    exact List.mem_map.mpr ⟨b, List.mem_filter.mpr ⟨hb, decide_eq_true ⟨a, ha, e, ne⟩⟩, rfl⟩
def mvF (S : List Fld) : D → Option D
  | .ins _ ((_, .int i) :: (_, .str z) :: _) => if (((lookN S z).map Fld.num).getD i) = i then none else some (.int i)
  | _ => none
theorem mv_get {S : List Fld} (nd : (S.map Fld.name).Nodup) (g : Fld) : (∃ a ∈ S, a.name = g.name ∧ a.num ≠ g.num) ↔ ¬ (((lookN S g.name).map Fld.num).getD g.num) = g.num := by
  constructor
  · rintro ⟨a, ha, e, ne⟩
    rw [← e, lookN_of nd ha]; exact ne
  · intro h
    cases q : lookN S g.name with
    | none => rw [q] at h; exact absurd rfl h
    | some a =>
      rw [q] at h
      exact ⟨a, List.mem_of_find?_eq_some q, by simpa using List.find?_some q, h⟩
theorem mvF_map {S : List Fld} (nd : (S.map Fld.name).Nodup) (T : List Fld) : (T.map fldD).filterMap (mvF S) = (mvL S T).map D.int := by
  unfold mvL
  induction T with
  | nil => rfl
  | cons g T ih =>
    rw [List.map_cons, List.filterMap_cons, List.filter_cons]
    have t : mvF S (fldD g) = if (((lookN S g.name).map Fld.num).getD g.num) = g.num then none else some (.int g.num) := rfl
    by_cases h : (((lookN S g.name).map Fld.num).getD g.num) = g.num
    · rw [t, if_pos h, if_neg (by rw [decide_eq_true_eq, mv_get nd]; exact fun e => e h)]; exact ih
    · rw [t, if_neg h, if_pos (by rw [decide_eq_true_eq, mv_get nd]; exact h), List.map_cons, List.map_cons, ih]
theorem spec_moved {S T : List Fld} {Q : RV → List RV → Prop} {E : D → List RV → Prop} (h : EdOk S) (h' : EdOk T) (k : Q (.olst ((mvL S T).map D.int)) [.d (edD S), .d (edD T)]) : dn_moved [.d (edD S), .d (edD T)] Q E := by
  refine ⟨rfl, ?_⟩
  unfold ss_moved
  have hl := h.l
  have hl' := h'.l
  walk_at "mp"
  refine dc_pure (f := nameK) (by rw [List.length_map, sizeLine_eq]; show 0 + _ ≤ _; omega) (fun x N hx hN => ?_) ?_
  · obtain ⟨f, hf, rfl⟩ := List.mem_map.mp hx
    refine ⟨_, rfl, ?_⟩
    walk_at "mp"
    exact hN
  rw [nameK_map, merge_new (by rw [List.nil_append, nm_keys]; exact nodup_inj (fun a b e => Sum.inr.inj e) h.dz), List.nil_append]
  walk_at "mp"
  refine lc_pure (f := mvF S) (by rw [List.length_map, sizeLine_eq]; show 0 + _ ≤ _; omega) (fun x N hx hN => ?_) ?_
  · obtain ⟨g, hg, rfl⟩ := List.mem_map.mp hx
    refine ⟨trivial, _, rfl, ?_⟩
    have t : mvF S (fldD g) = if (((lookN S g.name).map Fld.num).getD g.num) = g.num then none else some (.int g.num) := rfl
    rw [t] at hN
    walk_at "mp"
    refine c_get2 nd_sr (avd_sdic rfl) avd_d rfl ?_
    rw [nm_get]
    have e : ((lookN S g.name).map fun f => D.int f.num).getD (.int g.num) = .int (((lookN S g.name).map Fld.num).getD g.num) := by cases lookN S g.name <;> rfl
    rw [e]
    walk_at "mp"
    apply ite_ndec <;> intro h
    · rw [if_pos h] at hN
      exact hN
    · rw [if_neg h] at hN
      walk_at "mp"
      exact hN
  rw [mvF_map h.dz, List.nil_append]
  refine ⟨trivial, ?_⟩
  walk_at "mp"
  exact k
/-! ### all changes; who reads whom -/
theorem lc2_0 {body : D → List D → En → (List D → En → Prop) → Prop} {K : List D → En → Prop} (I : Nat → List D → En → Prop) {xs acc : List D} {env : En} (h0 : I 0 acc env)
    (hs : ∀ (k : Nat) (x : D) (acc : List D) (env : En) (N : List D → En → Prop), xs[k]? = some x → I k acc env → (∀ a e, I (k + 1) a e → N a e) → body x acc env N)
    (hd : ∀ acc env, I xs.length acc env → K acc env) : lc2Loop body xs acc env K := by
  have key : ∀ (ys : List D) (n : Nat) (acc : List D) (env : En), (∀ k, ys[k]? = xs[n + k]?) → n + ys.length = xs.length → I n acc env → lc2Loop body ys acc env K := fun ys => by
    induction ys with
    | nil => intro n acc env _ hl h; exact hd _ _ (by rw [← hl]; exact h)
    | cons y ys ih =>
      intro n acc env hy hl h
      refine hs n y acc env _ (by have := hy 0; rw [Nat.add_zero] at this; rw [← this]; rfl) h fun a e he => ih (n + 1) a e (fun k => ?_) (by rw [List.length_cons] at hl; omega) he
      have := hy (k + 1)
      rw [List.getElem?_cons_succ] at this
      rw [this]; congr 1; omega
  exact key xs 0 acc env (fun k => by rw [Nat.zero_add]) (by omega) h0
theorem keysD {M : List (Key × D)} (h : ∀ k ∈ M.map (·.1), ∃ i, k = Sum.inl i) : ∃ ns : List Int, (M.map fun p => keyD p.1) = ns.map D.int ∧ (∀ n, n ∈ ns ↔ Sum.inl n ∈ M.map (·.1)) ∧ ns.length = M.length := by
  induction M with
  | nil => exact ⟨[], rfl, by simp, rfl⟩
  | cons p M ih =>
    obtain ⟨i, e⟩ := h p.1 (by simp)
    obtain ⟨ns, h1, h2, h3⟩ := ih fun k hk => h k (by rw [List.map_cons]; exact List.mem_cons_of_mem _ hk)
    refine ⟨i :: ns, by rw [List.map_cons, List.map_cons, h1, e]; rfl, fun n => ?_, by simp [h3]⟩
    rw [List.mem_cons, List.map_cons, List.mem_cons, h2, e, Sum.inl.injEq]
theorem c_sorted {E : XE} {env : En} {av : AV} {K : AV → En → Prop} {ns : List Int} (h : AvD env av (.lst (ns.map D.int))) (k : ∀ ns' : List Int, ns'.Perm ns → ns'.Pairwise (· ≤ ·) → K (.rv (.olst (ns'.map D.int))) env) : callDen dSorted [av] env K E := by
  obtain ⟨r, g, e⟩ := h
  have g' : gets env [av] = some [r] := by
    show (match av.get env with | some x => (gets env []).map (x :: ·) | none => none) = _
    rw [g]; rfl
  exact ⟨by cases av <;> simp [slots], [r], g', ns, by rw [List.map_cons, e]; rfl, fun ns' h1 h2 => by show K _ (puts env [av] [r]); rw [puts_same g']; exact k ns' h1 h2⟩
def prD (p : Str × Int) : D := .tup [.str p.1, .int p.2]
def mvT : D → Option D
  | .int i => some (.tup [.str (Str.ofString "move"), .int i])
  | _ => none
theorem mvT_map (ns : List Int) : (ns.map D.int).filterMap mvT = (ns.map fun n => (Str.ofString "move", n)).map prD := by
  induction ns with
  | nil => rfl
  | cons n ns ih => rw [List.map_cons, List.filterMap_cons, show mvT (.int n) = some (prD (Str.ofString "move", n)) from rfl, ih]; rfl
def chIs (c : Str) : D → Option D
  | .tup (.str z :: r) => if z = c then some (.tup (.str z :: r)) else none
  | _ => none
theorem chIs_map (c : Str) (L : List (Str × Int)) : (L.map prD).filterMap (chIs c) = (L.filter fun p => decide (p.1 = c)).map prD := by
  induction L with
  | nil => rfl
  | cons p L ih =>
    rw [List.map_cons, List.filterMap_cons, List.filter_cons]
    have t : chIs c (prD p) = if p.1 = c then some (prD p) else none := rfl
    by_cases h : p.1 = c
    · rw [t, if_pos h, if_pos (by simpa using h), List.map_cons, ih]
    · rw [t, if_neg h, if_neg (by simpa using h), ih]
theorem fieldC_len (x y : Option Fld) : (fieldC x y).length ≤ 3 := by
  cases x with
  | none => cases y <;> (unfold fieldC; simp)
  | some f => cases y with
    | none => unfold fieldC; simp
    | some g =>
      rw [fieldC_ss]
      split
      · unfold keptC
        rw [List.length_append]
        have h1 : (preC f.pre g.pre).length ≤ 1 := by unfold preC; split <;> split <;> (try split) <;> simp
        have h2 : (kindC f.kind g.kind).length ≤ 1 := by unfold kindC; split <;> (try split) <;> (try split) <;> (try split) <;> simp
        omega
      · simp
noncomputable def atN (S T : List Fld) (n : Int) : List (Str × Int) := (fieldC (look S n) (look T n)).map fun c => (c, n)
theorem atN_len (S T : List Fld) (n : Int) : (atN S T n).length ≤ 3 := by unfold atN; rw [List.length_map]; exact fieldC_len _ _
theorem flat_len (S T : List Fld) : ∀ ns : List Int, (ns.flatMap (atN S T)).length ≤ 3 * ns.length
  | [] => by simp
  | n :: ns => by
    rw [List.flatMap_cons, List.length_append, List.length_cons]
    have := atN_len S T n
    have := flat_len S T ns
    omega
theorem spec_changes {S T : List Fld} {Q : RV → List RV → Prop} {E : D → List RV → Prop} (h : EdOk S) (h' : EdOk T)
    (k : ∀ L : List (Str × Int), L.length ≤ 10000 → (∀ c n, (c, n) ∈ L ↔ Has S T c n) → Q (.olst (L.map prD)) [.d (edD S), .d (edD T)]) : dn_changes [.d (edD S), .d (edD T)] Q E := by
  refine ⟨rfl, ?_⟩
  unfold ss_changes
  have hl := h.l
  have hl' := h'.l
  have b1 : (bnD S).length = S.length := by unfold bnD; rw [List.length_map]
  have b2 : (bnD T).length = T.length := by unfold bnD; rw [List.length_map]
  have z1 : (bnD S).length ≤ sizeLine := by rw [b1, sizeLine_eq]; omega
  have z2 : (bnD S).length + (bnD T).length ≤ sizeLine := by rw [b1, b2, sizeLine_eq]; omega
  have lm : (mvL S T).length ≤ T.length := by unfold mvL; rw [List.length_map]; exact List.length_filter_le ..
  walk_at "mp"
  refine callRv (rs := [_]) (spec_bynum h ?_)
  walk_at "mp"
  refine callRv (rs := [_]) (spec_bynum h' ?_)
  walk_at "mp"
  refine callRv (rs := [_, _]) (spec_moved h h' ?_)
  walk_at "mp"
  refine lc_pure (f := mvT) (by rw [List.length_map, sizeLine_eq]; show 0 + _ ≤ _; omega) (fun x N hx hN => ?_) ?_
  · obtain ⟨n, hn, rfl⟩ := List.mem_map.mp hx
    refine ⟨trivial, _, rfl, ?_⟩
    walk_at "mp"
    exact hN
  rw [mvT_map, List.nil_append]
  refine ⟨trivial, ?_⟩
  walk_at "mp"
  have kM : ∀ q, q ∈ (mergeD (mergeD [] (bnD S)) (bnD T)).map (·.1) ↔ q ∈ (bnD S).map (·.1) ∨ q ∈ (bnD T).map (·.1) := fun q => by
    rw [merge_keys, merge_keys]; simp
  have lM : (mergeD (mergeD [] (bnD S)) (bnD T)).length ≤ 160 := by
    have := merge_len (bnD T) (mergeD [] (bnD S))
    have := merge_len (bnD S) []
    simp only [List.length_nil] at this
    omega
  generalize mergeD (mergeD [] (bnD S)) (bnD T) = M at kM lM ⊢
  obtain ⟨ns, hk1, hk2, hk3⟩ := keysD (M := M) fun q hq => by
    rcases (kM q).mp hq with hq | hq
    · rw [bn_keys] at hq; obtain ⟨n, _, rfl⟩ := List.mem_map.mp hq; exact ⟨n, rfl⟩
    · rw [bn_keys] at hq; obtain ⟨n, _, rfl⟩ := List.mem_map.mp hq; exact ⟨n, rfl⟩
  rw [hk1]
  refine lc_pure (f := some) (by rw [List.length_map, sizeLine_eq]; show 0 + _ ≤ _; omega) (fun x N hx hN => ?_) ?_
  · obtain ⟨n, hn, rfl⟩ := List.mem_map.mp hx
    refine ⟨trivial, _, rfl, ?_⟩
    walk_at "mp"
    exact hN
  rw [List.filterMap_some, List.nil_append]
  refine ⟨trivial, ?_⟩
  walk_at "mp"
  refine c_sorted avd_l fun ns' hp hs => ?_
  walk_at "mp"
  have ln : ns'.length ≤ 160 := by rw [hp.length_eq, hk3]; exact lM
  have hk : ∀ n, n ∉ ns' → look S n = none ∧ look T n = none := fun n hn => by
    have : n ∉ ns := fun q => hn (hp.symm.subset q)
    rw [hk2, kM, bn_keys, bn_keys] at this
    have aux : ∀ U : List Fld, Sum.inl n ∉ (U.map Fld.num).map (Sum.inl : Int → Key) → look U n = none := fun U hU => by
      cases q : look U n with
      | none => rfl
      | some f =>
        obtain ⟨f1, f2⟩ := look_some q
        exact absurd (List.mem_map.mpr ⟨n, List.mem_map.mpr ⟨f, f1, f2⟩, rfl⟩) hU
    exact ⟨aux S fun q => this (.inl q), aux T fun q => this (.inr q)⟩
  refine for0 (I := fun j e => ∃ w5 w6 : Option RV, e = [some (.d (edD S)), some (.d (edD T)), some (.d (.dic (bnD S))), some (.d (.dic (bnD T))), some (.olst (((mvL S T).map (fun n => (Str.ofString "move", n)) ++ (ns'.take j).flatMap (atN S T)).map prD)), w5, w6, none]) ⟨_, _, by rw [List.take_zero, List.flatMap_nil, List.append_nil]; rfl⟩ ?_ ?_
  · rintro j x e NX hx ⟨w5, w6, rfl⟩ hN
    rw [List.getElem?_map, Option.map_eq_some_iff] at hx
    obtain ⟨n, hn, rfl⟩ := hx
    have lj : ((ns'.take j).flatMap (atN S T)).length ≤ 480 := by
      have := flat_len S T (ns'.take j)
      have : (ns'.take j).length ≤ 160 := by rw [List.length_take]; omega
      omega
    have e1 : ns'.take (j + 1) = ns'.take j ++ [n] := by rw [List.take_add_one, hn]; rfl
    refine ⟨_, rfl, ?_⟩
    walk_at "mp"
    refine c_2 nd_rr avd_d avd_d (gGet_ok (ky := .inl n) rfl) ?_
    walk_at "mp"
    refine c_2 nd_rr avd_d avd_d (gGet_ok (ky := .inl n) rfl) ?_
    rw [bn_opt, bn_opt]
    walk_at "mp"
    refine callRv (rs := [_, _]) (spec_fieldc (fun f hf => h.f f (look_some hf).1) (fun f hf => h'.f f (look_some hf).1) ?_)
    walk_at "mp"
    rw [e1, List.flatMap_append, List.flatMap_singleton, ← List.append_assoc] at hN
    have lB : ((mvL S T).map (fun n => (Str.ofString "move", n)) ++ (ns'.take j).flatMap (atN S T)).length ≤ 600 := by rw [List.length_append, List.length_map]; omega
    generalize (mvL S T).map (fun n => (Str.ofString "move", n)) ++ (ns'.take j).flatMap (atN S T) = B at hN lB ⊢
    have lF := fieldC_len (look S n) (look T n)
    unfold atN at hN
    generalize fieldC (look S n) (look T n) = F at hN lF ⊢
    refine for0 (I := fun i e => ∃ w6 : Option RV, e = [some (.d (edD S)), some (.d (edD T)), some (.d (.dic (bnD S))), some (.d (.dic (bnD T))), some (.olst ((B ++ (F.take i).map fun c => (c, n)).map prD)), some (.d (.int n)), w6, none]) ⟨_, by rw [List.take_zero, List.map_nil, List.append_nil]; rfl⟩ ?_ ?_
    · rintro i x e NX2 hx ⟨w6, rfl⟩ hN2
      unfold strsL at hx
      rw [List.getElem?_map, Option.map_eq_some_iff] at hx
      obtain ⟨c, hc, rfl⟩ := hx
      have e2 : F.take (i + 1) = F.take i ++ [c] := by rw [List.take_add_one, hc]; rfl
      have li : (B ++ (F.take i).map fun c => (c, n)).length ≤ 603 := by rw [List.length_append, List.length_map, List.length_take]; omega
      have e3 : B ++ (F.take (i + 1)).map (fun c => (c, n)) = (B ++ (F.take i).map fun c => (c, n)) ++ [(c, n)] := by rw [e2, List.map_append, ← List.append_assoc]; rfl
      rw [e3] at hN2
      generalize (B ++ (F.take i).map fun c => (c, n)) = B2 at hN2 li ⊢
      refine ⟨_, rfl, ?_⟩
      walk_at "mp"
      exact hN2 _ ⟨_, by rw [List.map_append]; rfl⟩
    · rintro e ⟨w6, rfl⟩
      walk_at "mp"
      have : F.take (strsL F).length = F := by unfold strsL; rw [List.length_map, List.take_length]
      rw [this]
      exact hN _ ⟨_, _, rfl⟩
  · rintro e ⟨w5, w6, rfl⟩
    rw [List.length_map, List.take_length]
    have lB : ((mvL S T).map (fun n => (Str.ofString "move", n)) ++ ns'.flatMap (atN S T)).length ≤ 600 := by
      have := flat_len S T ns'
      rw [List.length_append, List.length_map]; omega
    have hB : ∀ c n, (c, n) ∈ ((mvL S T).map (fun n => (Str.ofString "move", n)) ++ ns'.flatMap (atN S T)) ↔ Has S T c n := fun c n => by
      rw [List.mem_append, List.mem_map, List.mem_flatMap]
      unfold Has
      constructor
      · rintro (⟨m, hm, e⟩ | ⟨m, hm, e⟩)
        · cases e; exact .inr ⟨rfl, mv_mem.mp hm⟩
        · unfold atN at e
          obtain ⟨c', hc, e⟩ := List.mem_map.mp e
          cases e; exact .inl hc
      · rintro (hc | ⟨rfl, hm⟩)
        · by_cases hn : n ∈ ns'
          · exact .inr ⟨n, hn, List.mem_map.mpr ⟨c, hc, rfl⟩⟩
          · obtain ⟨q1, q2⟩ := hk n hn
            rw [q1, q2] at hc; cases hc
        · exact .inl ⟨n, mv_mem.mpr hm, rfl⟩
    generalize ((mvL S T).map (fun n => (Str.ofString "move", n)) ++ ns'.flatMap (atN S T)) = B at lB hB ⊢
    walk_at "mp"
    refine lc2_0 (I := fun j acc e => ∃ r4, (r4 = .olst (B.map prD) ∨ r4 = .d (.lst (B.map prD))) ∧ e = [some (.d (edD S)), some (.d (edD T)), some (.d (.dic (bnD S))), some (.d (.dic (bnD T))), some r4, w5, w6, none] ∧ acc = ((CHGS.take j).flatMap fun c => B.filter fun p => decide (p.1 = c)).map prD) ⟨_, .inl rfl, rfl, rfl⟩ ?_ ?_
    · rintro j x acc e NX hx ⟨r4, hr, rfl, rfl⟩ hN
      obtain ⟨c, hc, rfl⟩ : ∃ c, CHGS[j]? = some c ∧ x = .str c := by
        have hx : (CHGS.map D.str)[j]? = some x := hx
        rw [List.getElem?_map, Option.map_eq_some_iff] at hx
        obtain ⟨c, hc, e⟩ := hx
        exact ⟨c, hc, e.symm⟩
      have e2 : CHGS.take (j + 1) = CHGS.take j ++ [c] := by rw [List.take_add_one, hc]; rfl
      have la : ((CHGS.take j).flatMap fun c => B.filter fun p => decide (p.1 = c)).length ≤ 600 * 13 := by
        have : ∀ l : List Str, (l.flatMap fun c => B.filter fun p => decide (p.1 = c)).length ≤ 600 * l.length := fun l => by
          induction l with
          | nil => simp
          | cons a l ih =>
            rw [List.flatMap_cons, List.length_append, List.length_cons]
            have := List.length_filter_le (fun p => decide (p.1 = a)) B
            omega
        have h2 := this (CHGS.take j)
        have : (CHGS.take j).length ≤ 13 := by rw [List.length_take]; exact Nat.min_le_right ..
        omega
      rw [e2, List.flatMap_append, List.flatMap_singleton] at hN
      refine ⟨_, rfl, ?_⟩
      rcases hr with rfl | rfl
      all_goals
        walk_at "mp"
        refine lc_pure (f := chIs c) (by rw [List.length_map, List.length_map, sizeLine_eq]; omega) (fun x N2 hx hN2 => ?_) ?_
        · obtain ⟨p, hp, rfl⟩ := List.mem_map.mp hx
          have t : chIs c (prD p) = if p.1 = c then some (prD p) else none := rfl
          rw [t] at hN2
          refine ⟨trivial, _, rfl, ?_⟩
          walk_at "mp"
          apply ite_dec <;> intro h
          · rw [if_pos h] at hN2
            walk_at "mp"
            exact hN2
          · rw [if_neg h] at hN2
            exact hN2
        rw [chIs_map]
        refine ⟨trivial, ?_⟩
        exact hN _ _ ⟨_, .inr rfl, rfl, by rw [List.map_append]⟩
    · rintro acc e ⟨r4, hr, rfl, rfl⟩
      have e3 : CHGS.take 13 = CHGS := rfl
      walk_at "mp"
      refine k (CHGS.flatMap fun c => B.filter fun p => decide (p.1 = c)) ?_ fun c n => ?_
      · have : ∀ l : List Str, (l.flatMap fun c => B.filter fun p => decide (p.1 = c)).length ≤ 600 * l.length := fun l => by
          induction l with
          | nil => simp
          | cons a l ih =>
            rw [List.flatMap_cons, List.length_append, List.length_cons]
            have := List.length_filter_le (fun p => decide (p.1 = a)) B
            omega
        have := this CHGS
        have e : CHGS.length = 13 := rfl
        omega
      · rw [List.mem_flatMap, ← hB]
        constructor
        · rintro ⟨c', _, h2⟩; exact (List.mem_filter.mp h2).1
        · intro h2
          exact ⟨c, Has_chg ((hB c n).mp h2), List.mem_filter.mpr ⟨h2, by simp⟩⟩
/-! ### reads -/
noncomputable def rdB (bad : List Str) (S T : List Fld) : Bool := @decide (¬ Bd bad S T) (Classical.propDecidable _)
theorem rdB_iff {bad : List Str} {S T : List Fld} : rdB bad S T = true ↔ ¬ Bd bad S T := @decide_eq_true_iff _ (Classical.propDecidable _)
theorem any_bd {bad : List Str} {S T : List Fld} {L : List (Str × Int)} (h : ∀ c n, (c, n) ∈ L ↔ Has S T c n) : (!(L.map fun p => decide (p.1 ∈ bad)).any id) = rdB bad S T := by
  rw [Bool.eq_iff_iff, rdB_iff, Bool.not_eq_true', ← Bool.not_eq_true, List.any_map, List.any_eq_true]
  refine not_congr ⟨fun ⟨⟨c, n⟩, h1, h2⟩ => ⟨c, n, (h c n).mp h1, by simpa using h2⟩, fun ⟨c, n, h1, h2⟩ => ⟨(c, n), (h c n).mpr h1, by simpa using h2⟩⟩
def inBad (bad : List Str) : D → Option D
  | .tup (.str z :: _) => some (.bl (decide (z ∈ bad)))
  | _ => none
theorem inBad_map (bad : List Str) (L : List (Str × Int)) : (L.map prD).filterMap (inBad bad) = (L.map fun p => decide (p.1 ∈ bad)).map D.bl := by
  induction L with
  | nil => rfl
  | cons p L ih => rw [List.map_cons, List.filterMap_cons, show inBad bad (prD p) = some (.bl (decide (p.1 ∈ bad))) from rfl, ih]; rfl
theorem spec_reads {S T : List Fld} {Q : RV → List RV → Prop} {E : D → List RV → Prop} (h : EdOk S) (h' : EdOk T) (k : Q (.d (.bl (rdB BACKS S T))) [.d (edD S), .d (edD T)]) : dn_reads [.d (edD S), .d (edD T)] Q E := by
  refine ⟨rfl, ?_⟩
  unfold ss_reads
  walk_at "mp"
  refine callRv (rs := [_, _]) (spec_changes h h' fun L hl hL => ?_)
  walk_at "mp"
  refine lc_pure (f := inBad BACKS) (by rw [List.length_map, sizeLine_eq]; show 0 + _ ≤ _; omega) (fun x N hx hN => ?_) ?_
  · obtain ⟨p, hp, rfl⟩ := List.mem_map.mp hx
    refine ⟨trivial, _, rfl, ?_⟩
    have t : inBad BACKS (prD p) = some (.bl (decide (p.1 ∈ BACKS))) := rfl
    rw [t] at hN
    walk_at "mp"
    have e : (decide (D.str p.1 ∈ BACKS.map D.str)) = decide (p.1 ∈ BACKS) := by
      rw [Bool.eq_iff_iff, decide_eq_true_iff, decide_eq_true_iff]; exact mem_strs
    refine c_2 nd_rr avd_d avd_d (show gIn [.str p.1, .tup (BACKS.map D.str)] = some (.d (.bl (decide (p.1 ∈ BACKS)))) by rw [gIn_t rfl (strs_nb _), e]) ?_
    walk_at "mp"
    exact hN
  rw [inBad_map, List.nil_append]
  refine ⟨trivial, ?_⟩
  walk_at "mp"
  rw [any_bd hL]
  exact k
/-! ### the law's own changes -/
def bnR (S : List Fld) : List (Key × D) := S.map fun f => (Sum.inl f.num, rowD f)
def zmR (S : List Fld) : List (Key × D) := S.map fun f => (Sum.inr f.name, rowD f)
theorem bnR_keys (S : List Fld) : (bnR S).map (·.1) = (S.map Fld.num).map Sum.inl := by unfold bnR; rw [List.map_map, List.map_map]; rfl
theorem zmR_keys (S : List Fld) : (zmR S).map (·.1) = (S.map Fld.name).map Sum.inr := by unfold zmR; rw [List.map_map, List.map_map]; rfl
theorem bnR_get (S : List Fld) (n : Int) : getD (bnR S) (.inl n) = (look S n).map rowD := by
  unfold getD bnR look
  induction S with
  | nil => rfl
  | cons f S ih =>
    rw [List.map_cons, List.find?_cons, List.find?_cons]
    by_cases h : f.num = n
    · simp [h]
    · simp only [h, decide_false, Sum.inl.injEq]; exact ih
theorem zmR_get (S : List Fld) (z : Str) : getD (zmR S) (.inr z) = (lookN S z).map rowD := by
  unfold getD zmR lookN
  induction S with
  | nil => rfl
  | cons f S ih =>
    rw [List.map_cons, List.find?_cons, List.find?_cons]
    by_cases h : f.name = z
    · simp [h]
    · simp only [h, decide_false, Sum.inr.injEq]; exact ih
theorem spec_homes0 {A : List Fld} {Q : RV → List RV → Prop} {E : D → List RV → Prop} (h : EdOk A) (k : Q (.odic (bnR A)) [.d (shD A), .d (.int 0)]) : dn_law_homes [.d (shD A), .d (.int 0)] Q E := by
  refine ⟨rfl, ?_⟩
  unfold ss_law_homes
  have hl := h.l
  unfold shD at k ⊢
  walk_at "mp"
  refine for0 (I := fun j e => ∃ w : Option RV, e = [some (.d (.lst (A.map rowD))), some (.d (.int 0)), some (.odic (bnR (A.take j))), w]) ⟨_, rfl⟩ ?_ ?_
  · rintro j x e NX hx ⟨w, rfl⟩ hN
    rw [List.getElem?_map, Option.map_eq_some_iff] at hx
    obtain ⟨f, hf, rfl⟩ := hx
    have eA : A.take (j + 1) = A.take j ++ [f] := by rw [List.take_add_one, hf]; rfl
    have sub : (A.take j ++ [f]).Sublist A := by rw [← eA]; exact List.take_sublist ..
    have n1 := List.Nodup.sublist (sub.map Fld.num) h.dn
    rw [List.map_append, List.nodup_append] at n1
    have lj : (bnR (A.take j)).length < sizeLine := by unfold bnR; rw [List.length_map, List.length_take, sizeLine_eq]; omega
    refine ⟨_, rfl, ?_⟩
    walk_at "mp"
    refine ⟨_, _, rfl, if_pos lj, ?_⟩
    rw [put_new (by
      rw [bnR_keys]
      intro q
      obtain ⟨m, hm, e⟩ := List.mem_map.mp q
      cases e
      exact n1.2.2 _ hm _ (by simp) rfl)]
    exact hN _ ⟨_, by rw [eA]; unfold bnR; rw [List.map_append]; rfl⟩
  · rintro e ⟨w, rfl⟩
    rw [List.length_map, List.take_length]
    walk_at "mp"
    exact k
theorem spec_homes1 {A : List Fld} {Q : RV → List RV → Prop} {E : D → List RV → Prop} (h : EdOk A) (k : Q (.odic (zmR A)) [.d (shD A), .d (.int 1)]) : dn_law_homes [.d (shD A), .d (.int 1)] Q E := by
  refine ⟨rfl, ?_⟩
  unfold ss_law_homes
  have hl := h.l
  unfold shD at k ⊢
  walk_at "mp"
  refine for0 (I := fun j e => ∃ w : Option RV, e = [some (.d (.lst (A.map rowD))), some (.d (.int 1)), some (.odic (zmR (A.take j))), w]) ⟨_, rfl⟩ ?_ ?_
  · rintro j x e NX hx ⟨w, rfl⟩ hN
    rw [List.getElem?_map, Option.map_eq_some_iff] at hx
    obtain ⟨f, hf, rfl⟩ := hx
    have eA : A.take (j + 1) = A.take j ++ [f] := by rw [List.take_add_one, hf]; rfl
    have sub : (A.take j ++ [f]).Sublist A := by rw [← eA]; exact List.take_sublist ..
    have n1 := List.Nodup.sublist (sub.map Fld.name) h.dz
    rw [List.map_append, List.nodup_append] at n1
    have lj : (zmR (A.take j)).length < sizeLine := by unfold zmR; rw [List.length_map, List.length_take, sizeLine_eq]; omega
    refine ⟨_, rfl, ?_⟩
    walk_at "mp"
    refine ⟨_, _, rfl, if_pos lj, ?_⟩
    rw [put_new (by
      rw [zmR_keys]
      intro q
      obtain ⟨m, hm, e⟩ := List.mem_map.mp q
      cases e
      exact n1.2.2 _ hm _ (by simp) rfl)]
    exact hN _ ⟨_, by rw [eA]; unfold zmR; rw [List.map_append]; rfl⟩
  · rintro e ⟨w, rfl⟩
    rw [List.length_map, List.take_length]
    walk_at "mp"
    exact k
theorem in2 {a b c : Str} : gIn [.str a, .lst [.str b, .str c]] = some (.d (.bl (decide (b = a ∨ c = a)))) := by
  rw [gIn_l rfl (fun y hy => by simp only [List.mem_cons, List.not_mem_nil, or_false] at hy; rcases hy with rfl | rfl <;> rfl)]
  congr 4
  simp only [List.mem_cons, D.str.injEq, List.not_mem_nil, or_false, eq_iff_iff]
  exact ⟨fun h => h.imp Eq.symm Eq.symm, fun h => h.imp Eq.symm Eq.symm⟩
theorem spec_lkept {f g : Fld} {Q : RV → List RV → Prop} {E : D → List RV → Prop} (hf : FOk f) (hg : FOk g) (k : Q (.olst (strsL (keptC f g))) [.d (rowD f), .d (rowD g)]) : dn_law_kept [.d (rowD f), .d (rowD g)] Q E := by
  refine ⟨rfl, ?_⟩
  unfold ss_law_kept
  unfold keptC preC kindC at k
  have s1 := scl_pre hf.p
  have s2 := scl_pre hg.p
  cases e1 : isN f.pre <;> cases e2 : isN g.pre
  case' false.false =>
    rw [if_neg (by rw [e1]; decide), if_neg (by rw [e2]; decide)] at k
    walk_at "mp"
    refine ite_ndt (by rw [e1, e2]) ?_
    walk_at "mp"
    refine c_2 nd_rr avd_d avd_d (gNe_scl s1 s2) ?_
    walk_at "mp"
    apply ite_ndec <;> intro h
    case' h1 => rw [if_pos h] at k
    case' h2 => rw [if_neg h] at k
  case' false.true =>
    rw [if_neg (by rw [e1]; decide), if_pos e2] at k
    walk_at "mp"
    refine ite_ndf (by rw [e1, e2]; decide) ?_
  case' true.false =>
    rw [if_pos e1, if_neg (by rw [e2]; decide)] at k
    walk_at "mp"
    refine ite_ndf (by rw [e1, e2]; decide) ?_
  case' true.true =>
    rw [if_pos e1, if_pos e2] at k
    walk_at "mp"
    refine ite_ndt (by rw [e1, e2]) ?_
  all_goals
    walk_at "mp"
    apply ite_ndec <;> intro hk
    · rw [if_pos hk] at k
      walk_at "mp"
      exact k
    · rw [if_neg hk] at k
      walk_at "mp"
      refine c_2 nd_rr avd_d avd_l in2 ?_
      walk_at "mp"
      apply ite_dec <;> intro h1
      · rw [if_pos h1] at k
        walk_at "mp"
        exact k
      · rw [if_neg h1] at k
        walk_at "mp"
        refine c_2 nd_rr avd_d avd_l in2 ?_
        walk_at "mp"
        apply ite_dec <;> intro h2
        · rw [if_pos h2] at k
          walk_at "mp"
          exact k
        · rw [if_neg h2] at k
          walk_at "mp"
          apply ite_dec <;> intro h3
          · rw [if_pos h3] at k
            walk_at "mp"
            exact k
          · rw [if_neg h3] at k
            walk_at "mp"
            exact k
/-! ### the law's changes, all -/
noncomputable def l1 (B : List Fld) (f : Fld) : List (Str × Int) := match look B f.num with
  | none => [(leftC f, f.num)]
  | some g => if g.name = f.name then (keptC f g).map fun c => (c, f.num) else [(leftC f, f.num)]
def l2 (A : List Fld) (g : Fld) : List (Str × Int) := (match look A g.num with
  | none => [(comeC g, g.num)]
  | some f => if f.name = g.name then [] else [(comeC g, g.num), (Str.ofString "reuse", g.num)]) ++ (match lookN A g.name with
  | none => []
  | some f => if f.num = g.num then [] else [(Str.ofString "move", g.num)])
theorem l12_has {A B : List Fld} (hA : EdOk A) (hB : EdOk B) (c : Str) (n : Int) : (c, n) ∈ A.flatMap (l1 B) ++ B.flatMap (l2 A) ↔ Has A B c n := by
  have mv : (∃ g ∈ B, (c, n) ∈ (match lookN A g.name with
      | none => []
      | some f => if f.num = g.num then [] else [(Str.ofString "move", g.num)])) ↔ c = Str.ofString "move" ∧ moveP A B n := by
    constructor
    · rintro ⟨g, hg, h⟩
      cases q : lookN A g.name with
      | none => rw [q] at h; cases h
      | some f =>
        rw [q] at h
        by_cases e : f.num = g.num
        · simp only [if_pos e] at h; cases h
        · simp only [if_neg e, List.mem_singleton] at h
          cases h
          exact ⟨rfl, f, List.mem_of_find?_eq_some q, g, hg, by simpa using List.find?_some q, rfl, e⟩
    · rintro ⟨rfl, a, ha, b, hb, e, rfl, ne⟩
      refine ⟨b, hb, ?_⟩
      rw [← e, lookN_of hA.dz ha]
      simp only [if_neg ne]; exact List.mem_singleton.mpr rfl
  have fl : ((∃ f ∈ A, (c, n) ∈ l1 B f) ∨ ∃ g ∈ B, (c, n) ∈ (match look A g.num with
      | none => [(comeC g, g.num)]
      | some f => if f.name = g.name then [] else [(comeC g, g.num), (Str.ofString "reuse", g.num)])) ↔ c ∈ fieldC (look A n) (look B n) := by
    constructor
    · rintro (⟨f, hf, h⟩ | ⟨g, hg, h⟩)
      · unfold l1 at h
        have la := look_of hA.dn hf
        cases q : look B f.num with
        | none =>
          rw [q] at h
          cases List.mem_singleton.mp h
          rw [la, q]; exact List.mem_singleton.mpr rfl
        | some g =>
          rw [q] at h
          by_cases e : g.name = f.name
          · simp only [if_pos e] at h
            obtain ⟨c', hc, e'⟩ := List.mem_map.mp h
            cases e'
            rw [la, q, fieldC_ss, if_pos e.symm]; exact hc
          · simp only [if_neg e] at h
            cases List.mem_singleton.mp h
            rw [la, q, fieldC_ss, if_neg fun z => e z.symm]; simp
      · have lb := look_of hB.dn hg
        cases q : look A g.num with
        | none =>
          rw [q] at h
          cases List.mem_singleton.mp h
          rw [lb, q]; exact List.mem_singleton.mpr rfl
        | some f =>
          rw [q] at h
          by_cases e : f.name = g.name
          · simp only [if_pos e] at h; cases h
          · simp only [if_neg e, List.mem_cons, List.not_mem_nil, or_false] at h
            rcases h with h | h <;> (cases h; rw [lb, q, fieldC_ss, if_neg e]; simp)
    · intro h
      cases qa : look A n with
      | none => cases qb : look B n with
        | none => rw [qa, qb] at h; cases h
        | some g =>
          rw [qa, qb] at h
          obtain ⟨g1, g2⟩ := look_some qb
          subst g2
          refine .inr ⟨g, g1, ?_⟩
          rw [qa]
          rw [List.mem_singleton.mp h]; exact List.mem_singleton.mpr rfl
      | some f =>
        obtain ⟨f1, f2⟩ := look_some qa
        subst f2
        cases qb : look B f.num with
        | none =>
          rw [qa, qb] at h
          refine .inl ⟨f, f1, ?_⟩
          unfold l1
          rw [qb, List.mem_singleton.mp h]; exact List.mem_singleton.mpr rfl
        | some g =>
          rw [qa, qb, fieldC_ss] at h
          obtain ⟨g1, g2⟩ := look_some qb
          by_cases e : f.name = g.name
          · rw [if_pos e] at h
            refine .inl ⟨f, f1, ?_⟩
            unfold l1
            rw [qb]
            simp only [if_pos e.symm]
            exact List.mem_map.mpr ⟨c, h, rfl⟩
          · rw [if_neg e] at h
            simp only [List.mem_cons, List.not_mem_nil, or_false] at h
            rcases h with rfl | h
            · refine .inl ⟨f, f1, ?_⟩
              unfold l1
              rw [qb]
              simp only [if_neg fun z : g.name = f.name => e z.symm]
              exact List.mem_singleton.mpr rfl
            · refine .inr ⟨g, g1, ?_⟩
              rw [g2, qa]
              simp only [if_neg e]
              rcases h with rfl | rfl <;> simp
  unfold Has
  rw [List.mem_append, List.mem_flatMap, List.mem_flatMap, ← mv, ← fl]
  unfold l2
  simp only [List.mem_append]
  constructor
  · rintro (h | ⟨g, hg, h | h⟩)
    · exact .inl (.inl h)
    · exact .inl (.inr ⟨g, hg, h⟩)
    · exact .inr ⟨g, hg, h⟩
  · rintro ((h | ⟨g, hg, h⟩) | ⟨g, hg, h⟩)
    · exact .inl h
    · exact .inr ⟨g, hg, .inl h⟩
    · exact .inr ⟨g, hg, .inr h⟩
theorem l1_len (B : List Fld) (f : Fld) : (l1 B f).length ≤ 3 := by
  unfold l1
  split
  · simp
  · rename_i g _
    split
    · rename_i e
      rw [List.length_map]
      have := fieldC_len (some f) (some g)
      rwa [fieldC_ss, if_pos e.symm] at this
    · simp
theorem l2_len (B : List Fld) (f : Fld) : (l2 B f).length ≤ 3 := by
  unfold l2
  rw [List.length_append]
  have h1 : ∀ x : Option Fld, (match x with
    | none => [(comeC f, f.num)]
    | some g => if g.name = f.name then [] else [(comeC f, f.num), (Str.ofString "reuse", f.num)]).length ≤ 2 := fun x => by
    cases x with
    | none => simp
    | some g => by_cases h : g.name = f.name <;> simp [h]
  have h2 : ∀ x : Option Fld, (match x with
    | none => []
    | some g => if g.num = f.num then [] else [(Str.ofString "move", f.num)]).length ≤ 1 := fun x => by
    cases x with
    | none => simp
    | some g => by_cases h : g.num = f.num <;> simp [h]
  exact Nat.le_trans (Nat.add_le_add (h1 _) (h2 _)) (by omega)
theorem flat3 {g : Fld → List (Str × Int)} (h : ∀ f, (g f).length ≤ 3) : ∀ A : List Fld, (A.flatMap g).length ≤ 3 * A.length
  | [] => by simp
  | f :: A => by
    rw [List.flatMap_cons, List.length_append, List.length_cons]
    have := h f
    have := flat3 h A
    omega
def withN (n : Int) : D → Option D
  | .str c => some (.tup [.str c, .int n])
  | _ => none
theorem withN_map (n : Int) (L : List Str) : (strsL L).filterMap (withN n) = (L.map fun c => (c, n)).map prD := by
  unfold strsL
  induction L with
  | nil => rfl
  | cons c L ih => rw [List.map_cons, List.filterMap_cons, show withN n (.str c) = some (prD (c, n)) from rfl, ih]; rfl
theorem spec_lchanges {A B : List Fld} {Q : RV → List RV → Prop} {E : D → List RV → Prop} (h : EdOk A) (h' : EdOk B)
    (k : ∀ L : List (Str × Int), L.length ≤ 10000 → (∀ c n, (c, n) ∈ L ↔ Has A B c n) → Q (.olst (L.map prD)) [.d (shD A), .d (shD B)]) : dn_law_changes [.d (shD A), .d (shD B)] Q E := by
  refine ⟨rfl, ?_⟩
  unfold ss_law_changes
  have hl := h.l
  have hl' := h'.l
  walk_at "mp"
  refine callRv (rs := [_, _]) (spec_homes0 h ?_)
  walk_at "mp"
  refine callRv (rs := [_, _]) (spec_homes0 h' ?_)
  walk_at "mp"
  refine callRv (rs := [_, _]) (spec_homes1 h ?_)
  walk_at "mp"
  refine for0 (I := fun j e => ∃ w : Option RV, e = [some (.d (shD A)), some (.d (shD B)), some (.odic (bnR A)), some (.odic (bnR B)), some (.odic (zmR A)), some (.olst (((A.take j).flatMap (l1 B)).map prD)), w, none]) ⟨_, rfl⟩ ?_ ?_
  · rintro j x e NX hx ⟨w, rfl⟩ hN
    have hx : (A.map rowD)[j]? = some x := hx
    rw [List.getElem?_map, Option.map_eq_some_iff] at hx
    obtain ⟨f, hf, rfl⟩ := hx
    have hfA := List.mem_of_getElem? hf
    have eA : A.take (j + 1) = A.take j ++ [f] := by rw [List.take_add_one, hf]; rfl
    have lj : ((A.take j).flatMap (l1 B)).length ≤ 240 := by
      have := flat3 (l1_len B) (A.take j)
      have : (A.take j).length ≤ 80 := by rw [List.length_take]; omega
      omega
    rw [eA, List.flatMap_append, List.flatMap_singleton, List.map_append] at hN
    generalize (A.take j).flatMap (l1 B) = L at lj hN ⊢
    have hc : leftC f = if isN f.pre = true then Str.ofString "drop" else Str.ofString "retire" := rfl
    have lL : (L.map prD).length < sizeLine := by rw [List.length_map, sizeLine_eq]; omega
    refine ⟨_, rfl, ?_⟩
    walk_at "mp"
    refine c_2 nd_rs avd_d (avd_sdic rfl) (gNinD_ok (ky := .inl f.num) rfl) ?_
    rw [bnR_get]
    unfold l1 at hN
    cases q : look B f.num with
    | none =>
      rw [q] at hN
      walk_at "mp"
      apply ite_bl <;> intro hp
      · rw [if_pos hp] at hc
        rw [hc] at hN
        walk_at "mp"
        exact hN _ ⟨_, rfl⟩
      · rw [if_neg (by rw [hp]; decide)] at hc
        rw [hc] at hN
        walk_at "mp"
        exact hN _ ⟨_, rfl⟩
    | some g =>
      rw [q] at hN
      obtain ⟨g1, g2⟩ := look_some q
      walk_at "mp"
      refine c_2 nd_sr (avd_sdic rfl) avd_d (gIx_d (x := rowD g) (ky := .inl f.num) rfl (by rw [bnR_get, q]; rfl)) ?_
      walk_at "mp"
      apply ite_ndec <;> intro hn
      · simp only [if_pos hn] at hN
        walk_at "mp"
        refine c_2 nd_sr (avd_sdic rfl) avd_d (gIx_d (x := rowD g) (ky := .inl f.num) rfl (by rw [bnR_get, q]; rfl)) ?_
        walk_at "mp"
        refine callRv (rs := [_, _]) (spec_lkept (h.f f hfA) (h'.f g g1) ?_)
        have lk : (keptC f g).length ≤ 3 := by
          have := fieldC_len (some f) (some g)
          rwa [fieldC_ss, if_pos hn.symm] at this
        walk_at "mp"
        refine lc_pure (f := withN f.num) (by unfold strsL; rw [List.length_map, sizeLine_eq]; show 0 + _ ≤ _; omega) (fun x N hx hN => ?_) ?_
        · unfold strsL at hx
          obtain ⟨c, hc, rfl⟩ := List.mem_map.mp hx
          refine ⟨trivial, _, rfl, ?_⟩
          walk_at "mp"
          exact hN
        rw [withN_map, List.nil_append]
        refine ⟨trivial, ?_⟩
        walk_at "mp"
        refine c_2 nd_sr (avd_sl rfl) avd_l (gAdd_l (by rw [List.length_map, List.length_map, List.length_map, sizeLine_eq]; omega)) ?_
        walk_at "mp"
        exact hN _ ⟨_, rfl⟩
      · simp only [if_neg hn] at hN
        walk_at "mp"
        apply ite_bl <;> intro hp
        · rw [if_pos hp] at hc
          rw [hc] at hN
          walk_at "mp"
          exact hN _ ⟨_, rfl⟩
        · rw [if_neg (by rw [hp]; decide)] at hc
          rw [hc] at hN
          walk_at "mp"
          exact hN _ ⟨_, rfl⟩
  rintro e ⟨w, rfl⟩
  have e0 : A.take (A.map rowD).length = A := by rw [List.length_map, List.take_length]
  rw [e0]
  have lA : (A.flatMap (l1 B)).length ≤ 240 := by have := flat3 (l1_len B) A; omega
  have hH := l12_has h h'
  generalize A.flatMap (l1 B) = L0 at lA hH ⊢
  walk_at "mp"
  refine for0 (I := fun j e => ∃ w : Option RV, e = [some (.d (shD A)), some (.d (shD B)), some (.odic (bnR A)), some (.odic (bnR B)), some (.odic (zmR A)), some (.olst ((L0 ++ (B.take j).flatMap (l2 A)).map prD)), w, none]) ⟨_, by rw [List.take_zero, List.flatMap_nil, List.append_nil]⟩ ?_ ?_
  · rintro j x e NX hx ⟨w, rfl⟩ hN
    have hx : (B.map rowD)[j]? = some x := hx
    rw [List.getElem?_map, Option.map_eq_some_iff] at hx
    obtain ⟨g, hg, rfl⟩ := hx
    have hgB := List.mem_of_getElem? hg
    have eB : B.take (j + 1) = B.take j ++ [g] := by rw [List.take_add_one, hg]; rfl
    have lj : (L0 ++ (B.take j).flatMap (l2 A)).length ≤ 480 := by
      have := flat3 (l2_len A) (B.take j)
      have : (B.take j).length ≤ 80 := by rw [List.length_take]; omega
      rw [List.length_append]
      omega
    rw [eB, List.flatMap_append, List.flatMap_singleton, ← List.append_assoc] at hN
    generalize L0 ++ (B.take j).flatMap (l2 A) = L at lj hN ⊢
    have hc : comeC g = if isN g.pre = true then Str.ofString "add" else Str.ofString "offer" := rfl
    have lL : ∀ M : List (Str × Int), M.length ≤ 3 → ((L ++ M).map prD).length < sizeLine := fun M hM => by rw [List.length_map, List.length_append, sizeLine_eq]; omega
    refine ⟨_, rfl, ?_⟩
    walk_at "mp"
    refine c_2 nd_rs avd_d (avd_sdic rfl) (gNinD_ok (ky := .inl g.num) rfl) ?_
    rw [bnR_get]
    unfold l2 at hN
    rw [List.map_append] at hN
    cases q : look A g.num with
    | none =>
      rw [q] at hN
      walk_at "mp"
      apply ite_bl <;> intro hp
      · rw [if_pos hp] at hc
        rw [hc] at hN
        walk_at "mp"
        refine c_2 nd_rs avd_d (avd_sdic rfl) (gInD_ok (ky := .inl g.num) rfl) ?_
        rw [bnR_get, q]
        walk_at "mp"
        refine c_2 nd_rs avd_d (avd_sdic rfl) (gInD_ok (ky := .inr g.name) rfl) ?_
        rw [zmR_get]
        cases q2 : lookN A g.name with
        | none =>
          rw [q2] at hN
          walk_at "mp"
          exact hN _ ⟨_, by first | ((try simp only [List.append_assoc]); rfl) | (simp only [List.nil_append, List.append_nil, List.map_nil]; rfl)⟩
        | some f2 =>
          rw [q2] at hN
          walk_at "mp"
          refine c_2 nd_sr (avd_sdic rfl) avd_d (gIx_d (x := rowD f2) (ky := .inr g.name) rfl (by rw [zmR_get, q2]; rfl)) ?_
          walk_at "mp"
          apply ite_ndec <;> intro hm
          · simp only [if_pos hm] at hN
            exact hN _ ⟨_, by first | ((try simp only [List.append_assoc]); rfl) | (simp only [List.nil_append, List.append_nil, List.map_nil]; rfl)⟩
          · simp only [if_neg hm] at hN
            walk_at "mp"
            exact hN _ ⟨_, by first | ((try simp only [List.append_assoc]); rfl) | (simp only [List.nil_append, List.append_nil, List.map_nil]; rfl)⟩
      · rw [if_neg (by rw [hp]; decide)] at hc
        rw [hc] at hN
        walk_at "mp"
        refine c_2 nd_rs avd_d (avd_sdic rfl) (gInD_ok (ky := .inl g.num) rfl) ?_
        rw [bnR_get, q]
        walk_at "mp"
        refine c_2 nd_rs avd_d (avd_sdic rfl) (gInD_ok (ky := .inr g.name) rfl) ?_
        rw [zmR_get]
        cases q2 : lookN A g.name with
        | none =>
          rw [q2] at hN
          walk_at "mp"
          exact hN _ ⟨_, by first | ((try simp only [List.append_assoc]); rfl) | (simp only [List.nil_append, List.append_nil, List.map_nil]; rfl)⟩
        | some f2 =>
          rw [q2] at hN
          walk_at "mp"
          refine c_2 nd_sr (avd_sdic rfl) avd_d (gIx_d (x := rowD f2) (ky := .inr g.name) rfl (by rw [zmR_get, q2]; rfl)) ?_
          walk_at "mp"
          apply ite_ndec <;> intro hm
          · simp only [if_pos hm] at hN
            exact hN _ ⟨_, by first | ((try simp only [List.append_assoc]); rfl) | (simp only [List.nil_append, List.append_nil, List.map_nil]; rfl)⟩
          · simp only [if_neg hm] at hN
            walk_at "mp"
            exact hN _ ⟨_, by first | ((try simp only [List.append_assoc]); rfl) | (simp only [List.nil_append, List.append_nil, List.map_nil]; rfl)⟩
    | some f =>
      rw [q] at hN
      walk_at "mp"
      refine c_2 nd_sr (avd_sdic rfl) avd_d (gIx_d (x := rowD f) (ky := .inl g.num) rfl (by rw [bnR_get, q]; rfl)) ?_
      walk_at "mp"
      apply ite_ndec <;> intro hn
      · simp only [if_pos hn] at hN
        walk_at "mp"
        refine c_2 nd_rs avd_d (avd_sdic rfl) (gInD_ok (ky := .inl g.num) rfl) ?_
        rw [bnR_get, q]
        walk_at "mp"
        refine c_2 nd_sr (avd_sdic rfl) avd_d (gIx_d (x := rowD f) (ky := .inl g.num) rfl (by rw [bnR_get, q]; rfl)) ?_
        walk_at "mp"
        walk_at "mp"
        refine c_2 nd_rs avd_d (avd_sdic rfl) (gInD_ok (ky := .inr g.name) rfl) ?_
        rw [zmR_get]
        cases q2 : lookN A g.name with
        | none =>
          rw [q2] at hN
          walk_at "mp"
          exact hN _ ⟨_, by first | ((try simp only [List.append_assoc]); rfl) | (simp only [List.nil_append, List.append_nil, List.map_nil]; rfl)⟩
        | some f2 =>
          rw [q2] at hN
          walk_at "mp"
          refine c_2 nd_sr (avd_sdic rfl) avd_d (gIx_d (x := rowD f2) (ky := .inr g.name) rfl (by rw [zmR_get, q2]; rfl)) ?_
          walk_at "mp"
          apply ite_ndec <;> intro hm
          · simp only [if_pos hm] at hN
            exact hN _ ⟨_, by first | ((try simp only [List.append_assoc]); rfl) | (simp only [List.nil_append, List.append_nil, List.map_nil]; rfl)⟩
          · simp only [if_neg hm] at hN
            walk_at "mp"
            exact hN _ ⟨_, by first | ((try simp only [List.append_assoc]); rfl) | (simp only [List.nil_append, List.append_nil, List.map_nil]; rfl)⟩
      · simp only [if_neg hn] at hN
        walk_at "mp"
        apply ite_bl <;> intro hp
        · rw [if_pos hp] at hc
          rw [hc] at hN
          walk_at "mp"
          refine c_2 nd_rs avd_d (avd_sdic rfl) (gInD_ok (ky := .inl g.num) rfl) ?_
          rw [bnR_get, q]
          walk_at "mp"
          refine c_2 nd_sr (avd_sdic rfl) avd_d (gIx_d (x := rowD f) (ky := .inl g.num) rfl (by rw [bnR_get, q]; rfl)) ?_
          walk_at "mp"
          walk_at "mp"
          refine c_2 nd_rs avd_d (avd_sdic rfl) (gInD_ok (ky := .inr g.name) rfl) ?_
          rw [zmR_get]
          cases q2 : lookN A g.name with
          | none =>
            rw [q2] at hN
            walk_at "mp"
            exact hN _ ⟨_, by first | ((try simp only [List.append_assoc]); rfl) | (simp only [List.nil_append, List.append_nil, List.map_nil]; rfl)⟩
          | some f2 =>
            rw [q2] at hN
            walk_at "mp"
            refine c_2 nd_sr (avd_sdic rfl) avd_d (gIx_d (x := rowD f2) (ky := .inr g.name) rfl (by rw [zmR_get, q2]; rfl)) ?_
            walk_at "mp"
            apply ite_ndec <;> intro hm
            · simp only [if_pos hm] at hN
              exact hN _ ⟨_, by first | ((try simp only [List.append_assoc]); rfl) | (simp only [List.nil_append, List.append_nil, List.map_nil]; rfl)⟩
            · simp only [if_neg hm] at hN
              walk_at "mp"
              exact hN _ ⟨_, by first | ((try simp only [List.append_assoc]); rfl) | (simp only [List.nil_append, List.append_nil, List.map_nil]; rfl)⟩
        · rw [if_neg (by rw [hp]; decide)] at hc
          rw [hc] at hN
          walk_at "mp"
          refine c_2 nd_rs avd_d (avd_sdic rfl) (gInD_ok (ky := .inl g.num) rfl) ?_
          rw [bnR_get, q]
          walk_at "mp"
          refine c_2 nd_sr (avd_sdic rfl) avd_d (gIx_d (x := rowD f) (ky := .inl g.num) rfl (by rw [bnR_get, q]; rfl)) ?_
          walk_at "mp"
          walk_at "mp"
          refine c_2 nd_rs avd_d (avd_sdic rfl) (gInD_ok (ky := .inr g.name) rfl) ?_
          rw [zmR_get]
          cases q2 : lookN A g.name with
          | none =>
            rw [q2] at hN
            walk_at "mp"
            exact hN _ ⟨_, by first | ((try simp only [List.append_assoc]); rfl) | (simp only [List.nil_append, List.append_nil, List.map_nil]; rfl)⟩
          | some f2 =>
            rw [q2] at hN
            walk_at "mp"
            refine c_2 nd_sr (avd_sdic rfl) avd_d (gIx_d (x := rowD f2) (ky := .inr g.name) rfl (by rw [zmR_get, q2]; rfl)) ?_
            walk_at "mp"
            apply ite_ndec <;> intro hm
            · simp only [if_pos hm] at hN
              exact hN _ ⟨_, by first | ((try simp only [List.append_assoc]); rfl) | (simp only [List.nil_append, List.append_nil, List.map_nil]; rfl)⟩
            · simp only [if_neg hm] at hN
              walk_at "mp"
              exact hN _ ⟨_, by first | ((try simp only [List.append_assoc]); rfl) | (simp only [List.nil_append, List.append_nil, List.map_nil]; rfl)⟩
  · rintro e ⟨w, rfl⟩
    have e0 : B.take (B.map rowD).length = B := by rw [List.length_map, List.take_length]
    rw [e0]
    walk_at "mp"
    exact k _ (by rw [List.length_append]; have := flat3 (l2_len A) B; omega) hH
/-! ### the law's reads and table -/
theorem split_back : Txt.split (Str.ofString "add need preset narrow recode swap reuse move") (Str.ofString " ") = BACKS := by decide +kernel
theorem split_ahead : Txt.split (Str.ofString "drop ease preset widen recode swap reuse move") (Str.ofString " ") = AHEADS := by decide +kernel
theorem gSplit_ok {a b : Str} (c : (b.length == 0) = false ∧ a.length + 2 ≤ sizeLine) : gSplit [.str a, .str b] = some (.olst ((Txt.split a b).map .str)) := if_pos c
theorem gsp_back : gSplit [.str (Str.ofString "add need preset narrow recode swap reuse move"), .str (Str.ofString " ")] = some (.olst (BACKS.map D.str)) := by
  rw [← split_back]; exact gSplit_ok ⟨by decide +kernel, by rw [sizeLine_eq]; decide +kernel⟩
theorem gsp_ahead : gSplit [.str (Str.ofString "drop ease preset widen recode swap reuse move"), .str (Str.ofString " ")] = some (.olst (AHEADS.map D.str)) := by
  rw [← split_ahead]; exact gSplit_ok ⟨by decide +kernel, by rw [sizeLine_eq]; decide +kernel⟩
theorem shs_at {As : List (List Fld)} {w : Nat} {A : List Fld} (h : As[w]? = some A) : atI (As.map shD) (w : Int) = some (shD A) := atI_nat (by rw [List.getElem?_map, h]; rfl)
theorem rdB_sym {A B : List Fld} (h : EdOk A) (h' : EdOk B) : rdB AHEADS B A = rdB BACKS A B := by
  rw [Bool.eq_iff_iff, rdB_iff, rdB_iff, Bd_sym h.f h'.f]
theorem spec_lreads {As : List (List Fld)} {w r : Nat} {A B : List Fld} {Q : RV → List RV → Prop} {E : D → List RV → Prop} (hw : As[w]? = some A) (hr : As[r]? = some B) (h : EdOk A) (h' : EdOk B)
    (k : Q (.d (.bl (rdB BACKS A B))) [.d (.lst (As.map shD)), .d (.int w), .d (.int r)]) : dn_law_reads [.d (.lst (As.map shD)), .d (.int w), .d (.int r)] Q E := by
  refine ⟨rfl, ?_⟩
  unfold ss_law_reads
  walk_at "mp"
  refine c_2 nd_rr avd_d avd_d gsp_back ?_
  walk_at "mp"
  have any : ∀ (bad : List Str) (p : Str × Int), gIn [.str p.1, .lst (bad.map D.str)] = some (.d (.bl (decide (p.1 ∈ bad)))) := fun bad p => by
    have e : (decide (D.str p.1 ∈ bad.map D.str)) = decide (p.1 ∈ bad) := by
      rw [Bool.eq_iff_iff, decide_eq_true_iff, decide_eq_true_iff]; exact mem_strs
    rw [gIn_l rfl (strs_nb _), e]
  apply ite_dec <;> intro hlt
  · walk_at "mp"
    refine c_2 nd_rr avd_d avd_d gsp_ahead ?_
    walk_at "mp"
    refine c_2 nd_rr avd_d avd_d (gIx_l (shs_at hr)) ?_
    walk_at "mp"
    refine c_2 nd_rr avd_d avd_d (gIx_l (shs_at hw)) ?_
    walk_at "mp"
    refine callRv (rs := [_, _]) (spec_lchanges h' h fun L hl hL => ?_)
    walk_at "mp"
    refine lc_pure (f := inBad AHEADS) (by rw [List.length_map, sizeLine_eq]; show 0 + _ ≤ _; omega) (fun x N hx hN => ?_) ?_
    · obtain ⟨p, hp, rfl⟩ := List.mem_map.mp hx
      refine ⟨trivial, _, rfl, ?_⟩
      have t : inBad AHEADS (prD p) = some (.bl (decide (p.1 ∈ AHEADS))) := rfl
      rw [t] at hN
      walk_at "mp"
      refine c_2 nd_rs avd_d (avd_sl rfl) (any AHEADS p) ?_
      walk_at "mp"
      exact hN
    rw [inBad_map, List.nil_append]
    refine ⟨trivial, ?_⟩
    walk_at "mp"
    rw [any_bd hL, rdB_sym h h']
    exact k
  · walk_at "mp"
    refine c_2 nd_rr avd_d avd_d (gIx_l (shs_at hw)) ?_
    walk_at "mp"
    refine c_2 nd_rr avd_d avd_d (gIx_l (shs_at hr)) ?_
    walk_at "mp"
    refine callRv (rs := [_, _]) (spec_lchanges h h' fun L hl hL => ?_)
    walk_at "mp"
    refine lc_pure (f := inBad BACKS) (by rw [List.length_map, sizeLine_eq]; show 0 + _ ≤ _; omega) (fun x N hx hN => ?_) ?_
    · obtain ⟨p, hp, rfl⟩ := List.mem_map.mp hx
      refine ⟨trivial, _, rfl, ?_⟩
      have t : inBad BACKS (prD p) = some (.bl (decide (p.1 ∈ BACKS))) := rfl
      rw [t] at hN
      walk_at "mp"
      refine c_2 nd_rs avd_d (avd_sl rfl) (any BACKS p) ?_
      walk_at "mp"
      exact hN
    rw [inBad_map, List.nil_append]
    refine ⟨trivial, ?_⟩
    walk_at "mp"
    rw [any_bd hL]
    exact k
/-! ### tables -/
def rowL (n : Nat) (T : Nat → Nat → Bool) (w : Nat) : List D := (List.range n).map fun r => .bl (T w r)
theorem grid_len (n : Nat) (T : Nat → Nat → Bool) : (gridD n T).length = n := by unfold gridD; rw [List.length_map, List.length_range]
theorem rowL_len (n : Nat) (T : Nat → Nat → Bool) (w : Nat) : (rowL n T w).length = n := by unfold rowL; rw [List.length_map, List.length_range]
theorem grid_at {n : Nat} {T : Nat → Nat → Bool} {w : Nat} (h : w < n) : atI (gridD n T) (w : Int) = some (.lst (rowL n T w)) := atI_nat (by
  unfold gridD
  rw [List.getElem?_map, List.getElem?_range h]; rfl)
theorem row_at {n : Nat} {T : Nat → Nat → Bool} {w r : Nat} (h : r < n) : atI (rowL n T w) (r : Int) = some (.bl (T w r)) := atI_nat (by
  unfold rowL
  rw [List.getElem?_map, List.getElem?_range h]; rfl)
theorem grid_ext {n : Nat} {T U : Nat → Nat → Bool} (h : ∀ w < n, ∀ r < n, T w r = U w r) : gridD n T = gridD n U := by
  unfold gridD
  refine List.map_congr_left fun w hw => ?_
  congr 1
  exact List.map_congr_left fun r hr => by rw [h w (List.mem_range.mp hw) r (List.mem_range.mp hr)]
theorem grid_set {n : Nat} {T : Nat → Nat → Bool} {U : Nat → Nat → Bool} {w : Nat} (h : w < n) : (gridD n T).set w (.lst (rowL n U w)) = gridD n fun v r => if v = w then U v r else T v r := by
  apply List.ext_getElem?
  intro v
  by_cases hv : v = w
  · subst hv
    rw [List.getElem?_set_self (by rw [grid_len]; exact h)]
    unfold gridD rowL
    rw [List.getElem?_map, List.getElem?_range h, Option.map_some]
    simp
  · rw [List.getElem?_set_ne (Ne.symm hv)]
    unfold gridD
    rw [List.getElem?_map, List.getElem?_map]
    by_cases hn : v < n
    · rw [List.getElem?_range hn]; simp [hv]
    · rw [List.getElem?_eq_none (by rw [List.length_range]; omega)]; rfl
/-- the good pairs: stored, those of each writer before as well -/
def gT (st : Bool) (T : Nat → Nat → Bool) : Nat → Nat → Bool
  | 0, r => T 0 r
  | w + 1, r => T (w + 1) r && (!st || gT st T w r)
theorem gT_false (T : Nat → Nat → Bool) : ∀ w r, gT false T w r = T w r
  | 0, r => rfl
  | w + 1, r => by show (T (w + 1) r && true) = _; rw [Bool.and_true]
noncomputable def tab0 (As : List (List Fld)) (w r : Nat) : Bool := match As[w]?, As[r]? with
  | some A, some B => rdB BACKS A B
  | _, _ => false
def tabF (f : Nat → D) : D → Option D
  | .int i => some (f i.toNat)
  | _ => none
theorem rng_mem {x : D} {n : Nat} (h : x ∈ rangeD 0 (n : Int)) : ∃ i : Nat, i < n ∧ x = .int (i : Nat) := by
  obtain ⟨i, hi, rfl⟩ := List.mem_map.mp h
  exact ⟨i, by have := List.mem_range.mp hi; simpa using this, by simp⟩
theorem tabF_rng (n : Nat) (f : Nat → D) : (rangeD 0 (n : Int)).filterMap (tabF f) = (List.range n).map f := by
  unfold rangeD
  rw [show ((n : Int) - 0).toNat = n by simp]
  induction List.range n with
  | nil => rfl
  | cons i l ih =>
    rw [List.map_cons, List.filterMap_cons, List.map_cons]
    have : tabF f (.int (0 + (i : Nat))) = some (f i) := by unfold tabF; simp
    rw [this, ih]
theorem rng_len (n : Nat) : (rangeD 0 (n : Int)).length = n := by unfold rangeD; simp
theorem setsub_nat {xs : List D} {i : Nat} {v : D} (h : i < xs.length) : setsubD (.olst xs) (.int (i : Nat)) v = some (.olst (xs.set i v)) := by
  show (ixN xs.length (i : Int)).map _ = _
  have : ixN xs.length (i : Int) = some i := by
    unfold ixN
    simp
    omega
  rw [this]; rfl
def midT (T : Nat → Nat → Bool) (j : Nat) : Nat → Nat → Bool := fun w r => if w ≤ j then gT true T w r else T w r
theorem mid_set (n : Nat) (T : Nat → Nat → Bool) (j : Nat) : gridD n (fun v r => if v = j + 1 then gT true T v r else midT T j v r) = gridD n (midT T (j + 1)) := grid_ext fun w _ r _ => by
  unfold midT
  by_cases h : w = j + 1
  · rw [if_pos h, if_pos (by omega)]
  · rw [if_neg h]
    by_cases h2 : w ≤ j
    · rw [if_pos h2, if_pos (by omega)]
    · rw [if_neg h2, if_neg (by omega)]
theorem mid_0 (n : Nat) (T : Nat → Nat → Bool) : gridD n (midT T 0) = gridD n T := grid_ext fun w _ r _ => by
  unfold midT
  by_cases h : w ≤ 0
  · have : w = 0 := by omega
    subst this; rfl
  · rw [if_neg h]
theorem mid_end (n : Nat) (T : Nat → Nat → Bool) : gridD n (midT T (n - 1)) = gridD n (gT true T) := grid_ext fun w hw r _ => by
  unfold midT
  rw [if_pos (by omega)]
theorem rng1_at {n k : Nat} {x : D} (h : (rangeD 1 (n : Int))[k]? = some x) : k + 1 < n ∧ x = .int ((k + 1 : Nat) : Int) := by
  unfold rangeD at h
  rw [List.getElem?_map, Option.map_eq_some_iff] at h
  obtain ⟨i, hi, rfl⟩ := h
  have hk := (List.getElem?_eq_some_iff.mp hi).1
  rw [List.length_range] at hk
  rw [List.getElem?_range (by simpa using hk)] at hi
  cases hi
  exact ⟨by omega, by congr 1 <;> omega⟩
theorem rng1_len (n : Nat) : (rangeD 1 (n : Int)).length = n - 1 := by unfold rangeD; rw [List.length_map, List.length_range]; omega
theorem spec_table {As : List (List Fld)} {st : Bool} {Q : RV → List RV → Prop} {E : D → List RV → Prop} (hA : ∀ A ∈ As, EdOk A) (hl : As.length ≤ 20)
    (k : Q (.olst (gridD As.length (gT st (tab0 As)))) [.d (.lst (As.map shD)), .d (.bl st)]) : dn_law_table [.d (.lst (As.map shD)), .d (.bl st)] Q E := by
  refine ⟨rfl, ?_⟩
  unfold ss_law_table
  have hl2 : (As.map shD).length ≤ 20 := by rw [List.length_map]; exact hl
  walk_at "mp"
  rw [List.length_map]
  refine lc_pure (f := tabF fun w => .lst (rowL As.length (tab0 As) w)) (by rw [rng_len, sizeLine_eq]; show 0 + _ ≤ _; omega) (fun x N hx hN => ?_) ?_
  · obtain ⟨w, hw, rfl⟩ := rng_mem hx
    have t : tabF (fun w => .lst (rowL As.length (tab0 As) w)) (.int (w : Nat)) = some (.lst (rowL As.length (tab0 As) w)) := by unfold tabF; simp
    rw [t] at hN
    obtain ⟨A, hwA⟩ : ∃ A, As[w]? = some A := ⟨_, List.getElem?_eq_getElem hw⟩
    refine ⟨trivial, _, rfl, ?_⟩
    walk_at "mp"
    refine lc_pure (f := tabF fun r => .bl (tab0 As w r)) (by rw [rng_len, sizeLine_eq]; show 0 + _ ≤ _; omega) (fun x N2 hx hN2 => ?_) ?_
    · obtain ⟨r, hr, rfl⟩ := rng_mem hx
      have t : tabF (fun r => .bl (tab0 As w r)) (.int (r : Nat)) = some (.bl (tab0 As w r)) := by unfold tabF; simp
      rw [t] at hN2
      obtain ⟨B, hrB⟩ : ∃ B, As[r]? = some B := ⟨_, List.getElem?_eq_getElem hr⟩
      refine ⟨trivial, _, rfl, ?_⟩
      walk_at "mp"
      refine callRv (rs := [_, _, _]) (spec_lreads hwA hrB (hA A (List.mem_of_getElem? hwA)) (hA B (List.mem_of_getElem? hrB)) ?_)
      have e : tab0 As w r = rdB BACKS A B := by unfold tab0; rw [hwA, hrB]
      rw [e] at hN2
      walk_at "mp"
      exact hN2
    rw [tabF_rng, List.nil_append]
    refine ⟨trivial, ?_⟩
    walk_at "mp"
    exact hN
  rw [tabF_rng, List.nil_append]
  refine ⟨trivial, ?_⟩
  cases st with
  | false =>
    walk_at "mp"
    rw [grid_ext (fun w _ r _ => gT_false (tab0 As) w r)] at k
    exact k
  | true =>
    walk_at "mp"
    have hg : ((List.range As.length).map fun w => D.lst (rowL As.length (tab0 As) w)) = gridD As.length (midT (tab0 As) 0) := (mid_0 _ _).symm
    rw [hg]
    refine for0 (I := fun j e => ∃ w5 : Option RV, e = [some (.d (.lst (As.map shD))), some (.d (.bl true)), some (.d (.int As.length)), some (.olst (gridD As.length (midT (tab0 As) j))), none, w5]) ⟨_, rfl⟩ ?_ ?_
    · rintro j x e NX hx ⟨w5, rfl⟩ hN
      obtain ⟨hj, rfl⟩ := rng1_at hx
      refine ⟨_, rfl, ?_⟩
      walk_at "mp"
      refine lc_pure (f := tabF fun r => .bl (gT true (tab0 As) (j + 1) r)) (by rw [rng_len, sizeLine_eq]; show 0 + _ ≤ _; omega) (fun x N2 hx hN2 => ?_) ?_
      · obtain ⟨r, hr, rfl⟩ := rng_mem hx
        have t : tabF (fun r => .bl (gT true (tab0 As) (j + 1) r)) (.int (r : Nat)) = some (.bl (gT true (tab0 As) (j + 1) r)) := by unfold tabF; simp
        have t2 : gT true (tab0 As) (j + 1) r = (tab0 As (j + 1) r && gT true (tab0 As) j r) := by show (_ && (!true || _)) = _; simp
        have m1 : midT (tab0 As) j (j + 1) r = tab0 As (j + 1) r := if_neg (by omega)
        have m2 : midT (tab0 As) j j r = gT true (tab0 As) j r := if_pos (by omega)
        rw [t, t2] at hN2
        refine ⟨trivial, _, rfl, ?_⟩
        walk_at "mp"
        refine c_2 nd_sr (avd_sl rfl) avd_d (gIx_l (grid_at hj)) ?_
        walk_at "mp"
        refine c_2 nd_rr avd_d avd_d (gIx_l (row_at hr)) ?_
        rw [m1]
        walk_at "mp"
        apply ite_bl <;> intro hb
        · walk_at "mp"
          have e : ((j + 1 : Nat) : Int) - 1 = (j : Nat) := by omega
          rw [e]
          refine c_2 nd_sr (avd_sl rfl) avd_d (gIx_l (grid_at (by omega))) ?_
          walk_at "mp"
          refine c_2 nd_rr avd_d avd_d (gIx_l (row_at hr)) ?_
          rw [m2]
          walk_at "mp"
          rw [hb, Bool.true_and] at hN2
          exact hN2
        · rw [hb, Bool.false_and] at hN2
          walk_at "mp"
          rw [hb]
          exact hN2
      rw [tabF_rng, List.nil_append]
      refine ⟨trivial, ?_⟩
      walk_at "mp"
      refine ⟨_, _, rfl, setsub_nat (by rw [grid_len]; exact hj), ?_⟩
      have e : (gridD As.length (midT (tab0 As) j)).set (j + 1) (.lst (rowL As.length (gT true (tab0 As)) (j + 1))) = gridD As.length (midT (tab0 As) (j + 1)) := by rw [grid_set hj, mid_set]
      refine hN _ ⟨some (.d (.int ((j + 1 : Nat) : Int))), ?_⟩
      rw [← e]; rfl
    · rintro e ⟨w5, rfl⟩
      rw [rng1_len, mid_end]
      walk_at "mp"
      exact k
/-! ### the program's table -/
theorem take_succ {α : Type} {l : List α} {j : Nat} {x : α} (h : l[j]? = some x) : l.take (j + 1) = l.take j ++ [x] := by rw [List.take_add_one, h]; rfl
theorem grid_get {n : Nat} {T : Nat → Nat → Bool} {w : Nat} (h : w < n) : (gridD n T)[w]? = some (.lst (rowL n T w)) := by
  unfold gridD
  rw [List.getElem?_map, List.getElem?_range h]; rfl
theorem row_get {n : Nat} {T : Nat → Nat → Bool} {w r : Nat} (h : r < n) : (rowL n T w)[r]? = some (.bl (T w r)) := by
  unfold rowL
  rw [List.getElem?_map, List.getElem?_range h]; rfl
theorem spec_good {Ss : List (List Fld)} {st : Bool} {Q : RV → List RV → Prop} {E : D → List RV → Prop} (hA : ∀ A ∈ Ss, EdOk A) (hl : Ss.length ≤ 20)
    (k : Q (.olst (gridD Ss.length (gT st (tab0 Ss)))) [.olst (Ss.map edD), .d (.bl st)]) : dn_good_pairs [.olst (Ss.map edD), .d (.bl st)] Q E := by
  refine ⟨rfl, ?_⟩
  unfold ss_good_pairs
  have hl2 : (Ss.map edD).length ≤ 20 := by rw [List.length_map]; exact hl
  walk_at "mp"
  refine lc0 (I := fun j acc e => e = [some (.olst (Ss.map edD)), some (.d (.bl st)), none, none, none, none, none] ∧ acc = (gridD Ss.length (tab0 Ss)).take j) ⟨rfl, rfl⟩ ?_ ?_
  · rintro w x acc e NX hx ⟨rfl, rfl⟩ hN
    rw [List.getElem?_map, Option.map_eq_some_iff] at hx
    obtain ⟨A, hwA, rfl⟩ := hx
    have hw : w < Ss.length := (List.getElem?_eq_some_iff.mp hwA).1
    refine ⟨by first | exact trivial | rfl, _, rfl, ?_⟩
    walk_at "mp"
    refine lc0 (I := fun j acc e => e = [some (.olst (Ss.map edD)), some (.d (.bl st)), none, none, some (.d (edD A)), none, none] ∧ acc = (rowL Ss.length (tab0 Ss) w).take j) ⟨rfl, rfl⟩ ?_ ?_
    · rintro r x acc e NX2 hx ⟨rfl, rfl⟩ hN2
      rw [List.getElem?_map, Option.map_eq_some_iff] at hx
      obtain ⟨B, hrB, rfl⟩ := hx
      have hr : r < Ss.length := (List.getElem?_eq_some_iff.mp hrB).1
      refine ⟨by first | exact trivial | rfl, _, rfl, ?_⟩
      walk_at "mp"
      refine callRv (rs := [_, _]) (spec_reads (hA A (List.mem_of_getElem? hwA)) (hA B (List.mem_of_getElem? hrB)) ?_)
      have e : tab0 Ss w r = rdB BACKS A B := by unfold tab0; rw [hwA, hrB]
      walk_at "mp"
      refine hN2 (some (.bl (rdB BACKS A B))) _ ⟨by rw [List.length_take, rowL_len, sizeLine_eq]; omega, rfl, ?_⟩
      rw [take_succ (row_get hr), e]
    · rintro acc e ⟨rfl, rfl⟩
      have e : (rowL Ss.length (tab0 Ss) w).take (Ss.map edD).length = rowL Ss.length (tab0 Ss) w := List.take_of_length_le (by rw [rowL_len, List.length_map]; exact Nat.le_refl _)
      rw [e]
      refine ⟨by first | exact trivial | rfl, ?_⟩
      walk_at "mp"
      refine hN (some (.lst (rowL Ss.length (tab0 Ss) w))) _ ⟨by rw [List.length_take, grid_len, sizeLine_eq]; omega, rfl, ?_⟩
      rw [take_succ (grid_get hw)]
  rintro acc e ⟨rfl, rfl⟩
  have e : (gridD Ss.length (tab0 Ss)).take (Ss.map edD).length = gridD Ss.length (tab0 Ss) := List.take_of_length_le (by rw [grid_len, List.length_map]; exact Nat.le_refl _)
  rw [e]
  refine ⟨by first | exact trivial | rfl, ?_⟩
  cases st with
  | false =>
    walk_at "mp"
    rw [grid_ext (fun w _ r _ => gT_false (tab0 Ss) w r)] at k
    exact k
  | true =>
    walk_at "mp"
    rw [← mid_0 Ss.length (tab0 Ss), List.length_map]
    refine for0 (I := fun j e => ∃ w5 : Option RV, e = [some (.olst (Ss.map edD)), some (.d (.bl true)), some (.olst (gridD Ss.length (midT (tab0 Ss) j))), none, none, w5, none]) ⟨_, rfl⟩ ?_ ?_
    · rintro j x e NX hx ⟨w5, rfl⟩ hN
      obtain ⟨hj, rfl⟩ := rng1_at hx
      refine ⟨_, rfl, ?_⟩
      walk_at "mp"
      rw [List.length_map]
      refine lc_pure (f := tabF fun r => .bl (gT true (tab0 Ss) (j + 1) r)) (by rw [rng_len, sizeLine_eq]; show 0 + _ ≤ _; omega) (fun x N2 hx hN2 => ?_) ?_
      · obtain ⟨r, hr, rfl⟩ := rng_mem hx
        have t : tabF (fun r => .bl (gT true (tab0 Ss) (j + 1) r)) (.int (r : Nat)) = some (.bl (gT true (tab0 Ss) (j + 1) r)) := by unfold tabF; simp
        have t2 : gT true (tab0 Ss) (j + 1) r = (tab0 Ss (j + 1) r && gT true (tab0 Ss) j r) := by show (_ && (!true || _)) = _; simp
        have m1 : midT (tab0 Ss) j (j + 1) r = tab0 Ss (j + 1) r := if_neg (by omega)
        have m2 : midT (tab0 Ss) j j r = gT true (tab0 Ss) j r := if_pos (by omega)
        rw [t, t2] at hN2
        refine ⟨by first | exact trivial | rfl, _, rfl, ?_⟩
        walk_at "mp"
        refine c_2 nd_sr (avd_sl rfl) avd_d (gIx_l (grid_at hj)) ?_
        walk_at "mp"
        refine c_2 nd_rr avd_d avd_d (gIx_l (row_at hr)) ?_
        rw [m1]
        walk_at "mp"
        apply ite_bl <;> intro hb
        · walk_at "mp"
          have e : ((j + 1 : Nat) : Int) - 1 = (j : Nat) := by omega
          rw [e]
          refine c_2 nd_sr (avd_sl rfl) avd_d (gIx_l (grid_at (by omega))) ?_
          walk_at "mp"
          refine c_2 nd_rr avd_d avd_d (gIx_l (row_at hr)) ?_
          rw [m2]
          walk_at "mp"
          rw [hb, Bool.true_and] at hN2
          exact hN2
        · rw [hb, Bool.false_and] at hN2
          walk_at "mp"
          rw [hb]
          exact hN2
      rw [tabF_rng, List.nil_append]
      refine ⟨by first | exact trivial | rfl, ?_⟩
      walk_at "mp"
      refine ⟨_, _, rfl, setsub_nat (by rw [grid_len]; exact hj), ?_⟩
      have e : (gridD Ss.length (midT (tab0 Ss) j)).set (j + 1) (.lst (rowL Ss.length (gT true (tab0 Ss)) (j + 1))) = gridD Ss.length (midT (tab0 Ss) (j + 1)) := by rw [grid_set hj, mid_set]
      refine hN _ ⟨some (.d (.int ((j + 1 : Nat) : Int))), ?_⟩
      rw [← e]; rfl
    · rintro e ⟨w5, rfl⟩
      rw [rng1_len, mid_end]
      walk_at "mp"
      exact k
/-! ### the first steps -/
open TL
theorem finF_eq (T : Nat → Nat → Bool) (n w r : Nat) : finF T n w r = (T w r && (decide (w + 1 = n ∧ r + 1 = n) || (decide (r + 1 < n) && finF T n w (r + 1)) || (decide (w + 1 < n) && finF T n (w + 1) r))) := by
  have off : ∀ {w r : Nat}, ¬ (w < n ∧ r < n) → finF T n w r = false := fun {w r} h => by rw [finF, if_neg h]
  by_cases h : w < n ∧ r < n
  · rw [finF, if_pos h]
    have e : decide (w = n - 1 ∧ r = n - 1) = decide (w + 1 = n ∧ r + 1 = n) := by
      rw [Bool.eq_iff_iff, decide_eq_true_iff, decide_eq_true_iff]; omega
    rw [e]
  · rw [off h]
    have e : decide (w + 1 = n ∧ r + 1 = n) = false := decide_eq_false fun z => h (by omega)
    have e1 : (decide (r + 1 < n) && finF T n w (r + 1)) = false := by
      by_cases q : r + 1 < n
      · rw [off (w := w) (r := r + 1) (fun z => h (by omega)), Bool.and_false]
      · rw [decide_eq_false q, Bool.false_and]
    have e2 : (decide (w + 1 < n) && finF T n (w + 1) r) = false := by
      by_cases q : w + 1 < n
      · rw [off (w := w + 1) (r := r) (fun z => h (by omega)), Bool.and_false]
      · rw [decide_eq_false q, Bool.false_and]
    rw [e, e1, e2]; simp
/-- from (w, r) on, some steps left -/
def fstC (F : Nat → Nat → Bool) (n : Nat) : Nat → Nat → Nat → List Nat
  | 0, _, _ => []
  | m + 1, w, r => if r + 1 < n ∧ F w (r + 1) = true then 114 :: fstC F n m w (r + 1) else 119 :: fstC F n m (w + 1) r
def sg (c : Nat) : Str := ⟨#[c]⟩
theorem sg_r : Str.ofString "r" = sg 114 := by decide +kernel
theorem sg_w : Str.ofString "w" = sg 119 := by decide +kernel
theorem join_sg (cs : List Nat) : (Txt.join "" (cs.map sg)).cps.toList = cs := by
  have e0 : tl ("" : Str) = [] := by decide +kernel
  show tl _ = cs
  rw [join_eq, tl_join, e0]
  induction cs with
  | nil => rfl
  | cons c cs ih =>
    cases cs with
    | nil => rfl
    | cons d cs =>
      have e : joinL [] (((c :: d :: cs).map sg).map tl) = c :: joinL [] (((d :: cs).map sg).map tl) := rfl
      rw [e, ih]
theorem sg_sum (cs : List Nat) : ((cs.map sg).map (·.length)).sum = cs.length := by
  induction cs with
  | nil => rfl
  | cons c cs ih =>
    rw [List.map_cons, List.map_cons, List.sum_cons, ih, List.length_cons]
    show 1 + _ = _
    omega
theorem fstC_len (F : Nat → Nat → Bool) (n : Nat) : ∀ m w r, (fstC F n m w r).length = m
  | 0, _, _ => rfl
  | m + 1, w, r => by
    unfold fstC
    split <;> (rw [List.length_cons, fstC_len])
/-- a step that can lead on -/
theorem fin_on {T : Nat → Nat → Bool} {n w r : Nat} (h : finF T n w r = true) (hw : w < n) (hr : r < n) (ne : ¬ (w + 1 = n ∧ r + 1 = n)) (nr : ¬ (r + 1 < n ∧ finF T n w (r + 1) = true)) : w + 1 < n ∧ finF T n (w + 1) r = true := by
  rw [finF_eq] at h
  rw [Bool.and_eq_true, Bool.or_eq_true, Bool.or_eq_true, decide_eq_true_iff, Bool.and_eq_true, Bool.and_eq_true, decide_eq_true_iff, decide_eq_true_iff] at h
  rcases h.2 with (h | h) | h
  · exact absurd h ne
  · exact absurd h nr
  · exact h
theorem spec_first {T : Nat → Nat → Bool} {n : Nat} {Q : RV → List RV → Prop} {E : D → List RV → Prop} (hn : 0 < n) (hn2 : n ≤ 20) (h00 : finF T n 0 0 = true)
    (k : ∀ z : Str, z.cps.toList = fstC (finF T n) n (2 * n - 2) 0 0 → Q (.d (.str z)) [.olst (gridD n (finF T n))]) : dn_first_steps [.olst (gridD n (finF T n))] Q E := by
  refine ⟨rfl, ?_⟩
  unfold ss_first_steps
  walk_at "mp"
  rw [grid_len]
  refine s_while (W := fun m e => ∃ (w r : Nat) (cs : List Nat), e = [some (.olst (gridD n (finF T n))), some (.d (.int n)), some (.d (.int w)), some (.d (.int r)), some (.olst ((cs.map sg).map D.str))] ∧ m = 2 * n - 2 - (w + r) ∧ w < n ∧ r < n ∧ finF T n w r = true ∧ cs ++ fstC (finF T n) n m w r = fstC (finF T n) n (2 * n - 2) 0 0 ∧ cs.length = w + r) (2 * n - 2) ⟨0, 0, [], rfl, by omega, hn, hn, h00, rfl, rfl⟩ ?_
  rintro m e ⟨w, r, cs, rfl, hm, hw, hr, hF, hc, hl⟩
  walk_at "mp"
  apply ite_dec <;> intro hlt
  · walk_at "mp"
    obtain ⟨m', rfl⟩ : ∃ m', m = m' + 1 := ⟨m - 1, by omega⟩
    have lc : ((cs.map sg).map D.str).length < sizeLine := by rw [List.length_map, List.length_map, hl, sizeLine_eq]; omega
    have ne : ¬ (w + 1 = n ∧ r + 1 = n) := by omega
    have ap : ∀ c : Nat, (cs.map sg).map D.str ++ [D.str (sg c)] = ((cs ++ [c]).map sg).map D.str := fun c => by rw [List.map_append, List.map_append]; rfl
    have e1 : (r : Int) + 1 = ((r + 1 : Nat) : Int) := by omega
    have e2 : (w : Int) + 1 = ((w + 1 : Nat) : Int) := by omega
    apply ite_dec <;> intro h1
    · walk_at "mp"
      refine c_2 nd_sr (avd_sl rfl) avd_d (gIx_l (grid_at hw)) ?_
      walk_at "mp"
      rw [e1]
      refine c_2 nd_rr avd_d avd_d (gIx_l (row_at (by omega))) ?_
      walk_at "mp"
      apply ite_bl <;> intro h2
      · walk_at "mp"
        refine ⟨m', by omega, w, r + 1, cs ++ [114], ?_, by omega, hw, by omega, h2, ?_, by rw [List.length_append, hl]; rfl⟩
        · rw [sg_r, ap]; rfl
        · rw [← hc, List.append_assoc]
          congr 1
          show [114] ++ _ = fstC (finF T n) n (m' + 1) w r
          conv => rhs; unfold fstC
          rw [if_pos ⟨by omega, h2⟩]; rfl
      · have nr : ¬ (r + 1 < n ∧ finF T n w (r + 1) = true) := fun z => by rw [h2] at z; exact absurd z.2 (by decide)
        obtain ⟨q1, q2⟩ := fin_on hF hw hr ne nr
        walk_at "mp"
        refine ⟨m', by omega, w + 1, r, cs ++ [119], ?_, by omega, q1, hr, q2, ?_, by rw [List.length_append, hl]; show w + r + 1 = _; omega⟩
        · rw [sg_w, ap]; rfl
        · rw [← hc, List.append_assoc]
          congr 1
          show [119] ++ _ = fstC (finF T n) n (m' + 1) w r
          conv => rhs; unfold fstC
          rw [if_neg nr]; rfl
    · have nr : ¬ (r + 1 < n ∧ finF T n w (r + 1) = true) := fun z => h1 (by omega)
      obtain ⟨q1, q2⟩ := fin_on hF hw hr ne nr
      walk_at "mp"
      refine ⟨m', by omega, w + 1, r, cs ++ [119], ?_, by omega, q1, hr, q2, ?_, by rw [List.length_append, hl]; show w + r + 1 = _; omega⟩
      · rw [sg_w, ap]; rfl
      · rw [← hc, List.append_assoc]
        congr 1
        show [119] ++ _ = fstC (finF T n) n (m' + 1) w r
        conv => rhs; unfold fstC
        rw [if_neg nr]; rfl
  · have hm0 : m = 0 := by omega
    subst hm0
    have hc : cs = fstC (finF T n) n (2 * n - 2) 0 0 := by rw [← hc]; exact (List.append_nil _).symm
    walk_at "mp"
    refine c_2 nd_rs avd_d (avd_sl rfl) (gJoin_ok (by
      rw [sg_sum]
      have e0 : (Str.ofString "").length = 0 := by decide +kernel
      rw [e0, hl]; omega)) ?_
    walk_at "mp"
    exact k _ (by rw [← hc]; exact join_sg cs)
/-! ### the pairs reached -/
def pD2 (p : Nat × Nat) : D := .tup [.int p.1, .int p.2]
theorem pD2_nb (L : List (Nat × Nat)) : ∀ y ∈ L.map pD2, nb 58 y = true := fun y hy => by
  obtain ⟨p, _, rfl⟩ := List.mem_map.mp hy; rfl
theorem pD2_inj {p q : Nat × Nat} (h : pD2 p = pD2 q) : p = q := by
  obtain ⟨a, b⟩ := p
  obtain ⟨c, d⟩ := q
  simp only [pD2, D.tup.injEq, List.cons.injEq, D.int.injEq, and_true] at h
  exact Prod.ext (by show a = c; omega) (by show b = d; omega)
theorem pD2_mem {L : List (Nat × Nat)} {w r : Nat} : D.tup [.int (w : Nat), .int (r : Nat)] ∈ L.map pD2 ↔ (w, r) ∈ L := by
  constructor
  · intro h
    obtain ⟨p, hp, e⟩ := List.mem_map.mp h
    rw [pD2_inj (p := (w, r)) (q := p) e.symm]; exact hp
  · intro h; exact List.mem_map.mpr ⟨_, h, rfl⟩
theorem pD2_neg {L : List (Nat × Nat)} {i j : Int} (h : i < 0 ∨ j < 0) : ¬ D.tup [.int i, .int j] ∈ L.map pD2 := fun z => by
  obtain ⟨⟨a, b⟩, hp, e⟩ := List.mem_map.mp z
  simp only [pD2, D.tup.injEq, List.cons.injEq, D.int.injEq, and_true] at e
  omega
theorem rng_at {n k : Nat} {x : D} (h : (rangeD 0 (n : Int))[k]? = some x) : k < n ∧ x = .int ((k : Nat) : Int) := by
  unfold rangeD at h
  rw [List.getElem?_map, Option.map_eq_some_iff] at h
  obtain ⟨i, hi, rfl⟩ := h
  have hk := (List.getElem?_eq_some_iff.mp hi).1
  rw [List.length_range] at hk
  rw [List.getElem?_range (by simpa using hk)] at hi
  cases hi
  exact ⟨by simpa using hk, by congr 1 <;> omega⟩
/-- (w, r) can be reached from the beginning -/
def reF (T : Nat → Nat → Bool) : Nat → Nat → Bool
  | 0, 0 => T 0 0
  | 0, r + 1 => T 0 (r + 1) && reF T 0 r
  | w + 1, 0 => T (w + 1) 0 && reF T w 0
  | w + 1, r + 1 => T (w + 1) (r + 1) && (reF T w (r + 1) || reF T (w + 1) r)
/-- the pairs of row w ahead of r -/
def reR (T : Nat → Nat → Bool) (w r : Nat) : List (Nat × Nat) := ((List.range r).filter (reF T w)).map fun r => (w, r)
def reL (T : Nat → Nat → Bool) (n w : Nat) : List (Nat × Nat) := (List.range w).flatMap fun w => reR T w n
theorem reR_mem {T : Nat → Nat → Bool} {w r a b : Nat} : (a, b) ∈ reR T w r ↔ a = w ∧ b < r ∧ reF T w b = true := by
  unfold reR
  simp only [List.mem_map, List.mem_filter, List.mem_range, Prod.mk.injEq]
  constructor
  · rintro ⟨c, ⟨h1, h2⟩, rfl, rfl⟩; exact ⟨rfl, h1, h2⟩
  · rintro ⟨rfl, h1, h2⟩; exact ⟨b, ⟨h1, h2⟩, rfl, rfl⟩
theorem reL_mem {T : Nat → Nat → Bool} {n w a b : Nat} : (a, b) ∈ reL T n w ↔ a < w ∧ b < n ∧ reF T a b = true := by
  unfold reL
  simp only [List.mem_flatMap, List.mem_range, reR_mem]
  constructor
  · rintro ⟨c, h, rfl, h2, h3⟩; exact ⟨h, h2, h3⟩
  · rintro ⟨h, h2, h3⟩; exact ⟨a, h, rfl, h2, h3⟩
theorem reR_succ {T : Nat → Nat → Bool} {w r : Nat} : reR T w (r + 1) = reR T w r ++ (if reF T w r = true then [(w, r)] else []) := by
  unfold reR
  rw [List.range_succ, List.filter_append, List.map_append]
  congr 1
  by_cases h : reF T w r = true
  · simp [h]
  · simp [h]
theorem reL_succ {T : Nat → Nat → Bool} {n w : Nat} : reL T n (w + 1) = reL T n w ++ reR T w n := by
  unfold reL
  rw [List.range_succ, List.flatMap_append]
  simp
theorem reR_len {T : Nat → Nat → Bool} {w r : Nat} : (reR T w r).length ≤ r := by
  unfold reR
  rw [List.length_map]
  exact Nat.le_trans (List.length_filter_le _ _) (by rw [List.length_range]; exact Nat.le_refl _)
theorem reL_len {T : Nat → Nat → Bool} {n : Nat} : ∀ {w : Nat}, (reL T n w).length ≤ n * w
  | 0 => Nat.zero_le _
  | w + 1 => by
    rw [reL_succ, List.length_append, Nat.mul_succ]
    have := reL_len (T := T) (n := n) (w := w)
    have := reR_len (T := T) (w := w) (r := n)
    omega
theorem mem_so_far {T : Nat → Nat → Bool} {n w r a b : Nat} : (a, b) ∈ reL T n w ++ reR T w r ↔ (a < w ∧ b < n ∧ reF T a b = true) ∨ (a = w ∧ b < r ∧ reF T w b = true) := by
  rw [List.mem_append, reL_mem, reR_mem]
theorem reF_eq {T : Nat → Nat → Bool} : ∀ {w r : Nat}, reF T w r = true ↔ T w r = true ∧ ((w = 0 ∧ r = 0) ∨ (∃ v, w = v + 1 ∧ reF T v r = true) ∨ (∃ s, r = s + 1 ∧ reF T w s = true))
  | 0, 0 => by rw [reF]; simp
  | 0, r + 1 => by rw [reF]; simp
  | w + 1, 0 => by rw [reF]; simp
  | w + 1, r + 1 => by rw [reF]; simp
theorem spec_reached {T : Nat → Nat → Bool} {n : Nat} {Q : RV → List RV → Prop} {E : D → List RV → Prop} (hn2 : n ≤ 20)
    (k : Q (.olst ((reL T n n).map pD2)) [.olst (gridD n T)]) : dn_reached_pairs [.olst (gridD n T)] Q E := by
  refine ⟨rfl, ?_⟩
  unfold ss_reached_pairs
  have hg : (gridD n T).length ≤ 20 := by rw [grid_len]; exact hn2
  walk_at "mp"
  rw [grid_len]
  refine for0 (I := fun w e => ∃ (w2 w3 w4 : Option RV), e = [some (.olst (gridD n T)), some (.olst ((reL T n w).map pD2)), w2, w3, w4]) ⟨_, _, _, rfl⟩ ?_ ?_
  · rintro w x e NX hx ⟨w2, w3, w4, rfl⟩ hN
    obtain ⟨hw, rfl⟩ := rng_at hx
    refine ⟨_, rfl, ?_⟩
    walk_at "mp"
    rw [grid_len]
    refine for0 (I := fun r e => ∃ (w3 w4 : Option RV), e = [some (.olst (gridD n T)), some (.olst ((reL T n w ++ reR T w r).map pD2)), some (.d (.int w)), w3, w4]) ⟨w3, w4, by unfold reR; simp⟩ ?_ ?_
    · rintro r x e NX2 hx ⟨w3, w4, rfl⟩ hN2
      obtain ⟨hr, rfl⟩ := rng_at hx
      have hL : ((reL T n w ++ reR T w r).map pD2).length < sizeLine := by
        rw [List.length_map, List.length_append, sizeLine_eq]
        have h1 := reL_len (T := T) (n := n) (w := w)
        have h2 := reR_len (T := T) (w := w) (r := r)
        have h3 : n * w ≤ 20 * 20 := Nat.mul_le_mul hn2 (by omega)
        omega
      have no : reF T w r = false → ∀ b : Bool, NX2 [some (.olst (gridD n T)), some (.olst ((reL T n w ++ reR T w r).map pD2)), some (.d (.int w)), some (.d (.int r)), some (.d (.bl b))] := fun hf b => hN2 _ ⟨_, _, by rw [reR_succ, if_neg (by rw [hf]; decide), List.append_nil]⟩
      have yes : reF T w r = true → ∀ b : Bool, NX2 [some (.olst (gridD n T)), some (.olst ((reL T n w ++ reR T w r).map pD2 ++ [.tup [.int w, .int r]])), some (.d (.int w)), some (.d (.int r)), some (.d (.bl b))] := fun hf b => hN2 _ ⟨_, _, by rw [reR_succ, if_pos hf, ← List.append_assoc, List.map_append (l₂ := [(w, r)])]; rfl⟩
      have m1 : D.tup [.int ((w : Int) - 1), .int (r : Nat)] ∈ (reL T n w ++ reR T w r).map pD2 ↔ ∃ v, w = v + 1 ∧ reF T v r = true := by
        cases w with
        | zero => exact ⟨fun z => absurd z (pD2_neg (.inl (by omega))), fun ⟨v, e, _⟩ => by omega⟩
        | succ v =>
          rw [show ((v + 1 : Nat) : Int) - 1 = (v : Nat) by omega, pD2_mem, mem_so_far]
          constructor
          · rintro (⟨_, _, h⟩ | ⟨h, _⟩)
            · exact ⟨v, rfl, h⟩
            · omega
          · rintro ⟨v', e, h⟩
            have : v = v' := by omega
            subst this
            exact .inl ⟨by omega, hr, h⟩
      have m2 : D.tup [.int (w : Nat), .int ((r : Int) - 1)] ∈ (reL T n w ++ reR T w r).map pD2 ↔ ∃ s, r = s + 1 ∧ reF T w s = true := by
        cases r with
        | zero => exact ⟨fun z => absurd z (pD2_neg (.inr (by omega))), fun ⟨v, e, _⟩ => by omega⟩
        | succ s =>
          rw [show ((s + 1 : Nat) : Int) - 1 = (s : Nat) by omega, pD2_mem, mem_so_far]
          constructor
          · rintro (⟨h, _⟩ | ⟨_, _, h⟩)
            · omega
            · exact ⟨s, rfl, h⟩
          · rintro ⟨s', e, h⟩
            have : s = s' := by omega
            subst this
            exact .inr ⟨rfl, by omega, h⟩
      refine ⟨_, rfl, ?_⟩
      walk_at "mp"
      refine c_2 nd_rs avd_d (avd_sl rfl) (gIn_l rfl (pD2_nb _)) ?_
      walk_at "mp"
      apply ite_dec0 <;> intro h1
      case' h2 =>
        walk_at "mp"
        refine c_2 nd_rs avd_d (avd_sl rfl) (gIn_l rfl (pD2_nb _)) ?_
        walk_at "mp"
        apply ite_dec0 <;> intro h2
      all_goals
        walk_at "mp"
        refine c_2 nd_sr (avd_sl rfl) avd_d (gIx_l (grid_at hw)) ?_
        walk_at "mp"
        refine c_2 nd_rr avd_d avd_d (gIx_l (row_at hr)) ?_
        walk_at "mp"
        apply ite_bl <;> intro h3
        · walk_at "mp"
          first
          | exact yes (reF_eq.mpr ⟨h3, .inr (.inl (m1.mp h1))⟩) _
          | exact yes (reF_eq.mpr ⟨h3, .inr (.inr (m2.mp h2))⟩) _
          | (apply ite_dec <;> intro h4
             · walk_at "mp"
               exact yes (reF_eq.mpr ⟨h3, .inl (by omega)⟩) _
             · walk_at "mp"
               refine no ?_ _
               cases q : reF T w r with
               | false => rfl
               | true =>
                 rcases (reF_eq.mp q).2 with z | z | z
                 · omega
                 · exact absurd (m1.mpr z) h1
                 · exact absurd (m2.mpr z) h2)
          | skip
        · rw [h3]
          walk_at "mp"
          refine no ?_ _
          cases q : reF T w r with
          | false => rfl
          | true => exact absurd ((reF_eq.mp q).1.symm.trans h3) (by decide)
    · rintro e ⟨w3, w4, rfl⟩
      rw [rng_len]
      walk_at "mp"
      exact hN _ ⟨_, _, _, by rw [reL_succ]⟩
  · rintro e ⟨w2, w3, w4, rfl⟩
    rw [rng_len]
    walk_at "mp"
    exact k
/-! ### plans -/
def planD (s c : D) : List (Str × D) := [(Str.ofString "steps", s), (Str.ofString "cells", c)]
theorem spec_pinit {s c : D} {Q : RV → List RV → Prop} {E : D → List RV → Prop} (k : Q (.d .non) [.oins (Str.ofString "Plan") (planD s c), .d s, .d c]) : dn_Plan_init [.oins (Str.ofString "Plan") [], .d s, .d c] Q E := by
  refine ⟨rfl, ?_⟩
  unfold ss_Plan_init
  walk_at "mp"
  exact k
theorem spec_plan {Ss : List (List Fld)} {st : Bool} {Q : RV → List RV → Prop} {E : D → List RV → Prop} (hA : ∀ A ∈ Ss, EdOk A) (hl : Ss.length ≤ 20) (hn : 0 < Ss.length)
    (k1 : finF (gT st (tab0 Ss)) Ss.length 0 0 = true → ∀ z : Str, z.cps.toList = fstC (finF (gT st (tab0 Ss)) Ss.length) Ss.length (2 * Ss.length - 2) 0 0 → Q (.oins (Str.ofString "Plan") (planD (.str z) .non)) [.olst (Ss.map edD), .d (.bl st)])
    (k2 : finF (gT st (tab0 Ss)) Ss.length 0 0 = false → Q (.oins (Str.ofString "Plan") (planD .non (.tup ((reL (gT st (tab0 Ss)) Ss.length Ss.length).map pD2)))) [.olst (Ss.map edD), .d (.bl st)]) : dn_plan [.olst (Ss.map edD), .d (.bl st)] Q E := by
  refine ⟨rfl, ?_⟩
  unfold ss_plan
  walk_at "mp"
  refine callDeck rfl rfl rfl (spec_good hA hl ?_)
  walk_at "mpP"
  walk_at "mp"
  refine callDeck rfl rfl rfl ⟨_, Ss.length, gT st (tab0 Ss), rfl, rfl, hn, by omega, ?_⟩
  walk_at "mpP"
  walk_at "mp"
  refine c_2 nd_sr (avd_sl rfl) avd_d (gIx_l (grid_at (w := 0) hn)) ?_
  walk_at "mp"
  refine c_2 nd_rr avd_d avd_d (gIx_l (row_at (r := 0) hn)) ?_
  walk_at "mp"
  apply ite_bl <;> intro h
  · walk_at "mp"
    refine callDeck rfl rfl rfl (spec_first hn hl h fun z hz => ?_)
    walk_at "mpP"
    walk_at "mp"
    refine callRv (rs := [_, _]) (spec_pinit ⟨rfl, _, _, rfl, ?_⟩)
    walk_at "mp"
    exact k1 h z hz
  · walk_at "mp"
    refine callDeck rfl rfl rfl (spec_reached hl ?_)
    walk_at "mpP"
    walk_at "mp"
    refine callRv (rs := [_, _]) (spec_pinit ⟨rfl, _, _, rfl, ?_⟩)
    walk_at "mp"
    exact k2 h
/-- the answer of a plan for a table -/
def PlanIs (T : Nat → Nat → Bool) (n : Nat) (r : RV) : Prop := (finF T n 0 0 = true ∧ ∃ z : Str, z.cps.toList = fstC (finF T n) n (2 * n - 2) 0 0 ∧ r = .oins (Str.ofString "Plan") (planD (.str z) .non)) ∨ (finF T n 0 0 = false ∧ r = .oins (Str.ofString "Plan") (planD .non (.tup ((reL T n n).map pD2))))
theorem spec_lplan {Ss : List (List Fld)} {st : Bool} {Q : RV → List RV → Prop} {E : D → List RV → Prop} (hA : ∀ A ∈ Ss, EdOk A) (hl : Ss.length ≤ 20) (hn : 0 < Ss.length)
    (k : ∀ r, PlanIs (gT st (tab0 Ss)) Ss.length r → Q r [.olst (Ss.map edD), .d (.bl st)]) : dn_law_plan [.olst (Ss.map edD), .d (.bl st)] Q E := by
  refine ⟨rfl, ?_⟩
  unfold ss_law_plan
  cases st with
  | true =>
    walk_at "mp"
    refine callDeck (rest := [.rv (.d (.bl true))]) rfl rfl rfl (spec_plan hA hl hn (fun h z hz => ?_) (fun h => ?_))
    · walk_at "mpP"
      walk_at "mp"
      exact k _ (.inl ⟨h, z, hz, rfl⟩)
    · walk_at "mpP"
      walk_at "mp"
      exact k _ (.inr ⟨h, rfl⟩)
  | false =>
    walk_at "mp"
    refine callDeck (rest := []) rfl rfl rfl (show addD [.bl false] dn_plan _ _ _ from spec_plan (st := false) hA hl hn (fun h z hz => ?_) (fun h => ?_))
    · walk_at "mp"
      exact k _ (.inl ⟨h, z, hz, rfl⟩)
    · walk_at "mp"
      exact k _ (.inr ⟨h, rfl⟩)
/-! ### one edition alone -/
theorem pre_self (a : D) : preC a a = [] := by
  unfold preC
  split
  · rfl
  · rw [if_pos rfl]
theorem kept_self (f : Fld) : keptC f f = [] := by
  unfold keptC kindC
  rw [pre_self, if_pos rfl]; rfl
theorem Has_self {A : List Fld} (h : EdOk A) (c : Str) (n : Int) : ¬ Has A A c n := by
  rintro (hc | ⟨_, a, ha, b, hb, e, e2, ne⟩)
  · cases q : look A n with
    | none => rw [q] at hc; cases hc
    | some f => rw [q, fieldC_ss, if_pos rfl, kept_self] at hc; cases hc
  · have h1 := lookN_of h.dz ha
    have h2 := lookN_of h.dz hb
    rw [e, h2] at h1
    cases h1
    exact ne e2
theorem rdB_self {A : List Fld} (h : EdOk A) (bad : List Str) : rdB bad A A = true := rdB_iff.mpr fun ⟨c, n, hc, _⟩ => Has_self h c n hc
theorem fin_one {A : List Fld} (h : EdOk A) (st : Bool) : finF (gT st (tab0 [A])) 1 0 0 = true := by
  rw [finF_eq]
  have e : gT st (tab0 [A]) 0 0 = true := by
    show tab0 [A] 0 0 = true
    unfold tab0
    exact rdB_self h _
  rw [e]; rfl
theorem EdOk.of {P : List Int} {N : List Str} {A : List Fld} (po : PoolOk P N) (h : ShOk P N A) : EdOk A := ⟨by have := h.len; rw [po.l1] at this; omega, h.f, h.dn, h.dz⟩
theorem EdOk.perm {A S : List Fld} (h : EdOk A) (p : S.Perm A) : EdOk S := ⟨by rw [p.length_eq]; exact h.l, fun f hf => h.f f (p.subset hf), (p.map _).nodup_iff.mpr h.dn, (p.map _).nodup_iff.mpr h.dz⟩
theorem tab_perm {As Ss : List (List Fld)} (hl : Ss.length = As.length) (hA : ∀ A ∈ As, EdOk A) (hp : ∀ (i : Nat) (S : List Fld), Ss[i]? = some S → ∃ A, As[i]? = some A ∧ S.Perm A) : tab0 Ss = tab0 As := by
  funext w r
  have get : ∀ i : Nat, (Ss[i]? = none ∧ As[i]? = none) ∨ ∃ S A, Ss[i]? = some S ∧ As[i]? = some A ∧ S.Perm A ∧ EdOk A := fun i => by
    cases q : Ss[i]? with
    | none => exact .inl ⟨rfl, List.getElem?_eq_none (by have := List.getElem?_eq_none_iff.mp q; omega)⟩
    | some S =>
      obtain ⟨A, h1, h2⟩ := hp i S q
      exact .inr ⟨S, A, rfl, h1, h2, hA A (List.mem_of_getElem? h1)⟩
  unfold tab0
  rcases get w with ⟨q1, q2⟩ | ⟨S, A, q1, q2, p1, e1⟩
  · rw [q1, q2]
  · rw [q1, q2]
    rcases get r with ⟨q3, q4⟩ | ⟨S', A', q3, q4, p2, e2⟩
    · rw [q3, q4]
    · rw [q3, q4]
      show rdB _ S S' = rdB _ A A'
      rw [Bool.eq_iff_iff, rdB_iff, rdB_iff, Bd_perm e1.dn e2.dn p1 p2]
/-! ### from the beginning and from the end -/
theorem sgD_r : D.str (sg 114) = D.str (Str.ofString "r") := by rw [sg_r]
theorem sgD_w : D.str (sg 119) = D.str (Str.ofString "w") := by rw [sg_w]
theorem fin_in {T : Nat → Nat → Bool} {n w r : Nat} (h : finF T n w r = true) : w < n ∧ r < n ∧ T w r = true := by
  by_cases q : w < n ∧ r < n
  · rw [finF, if_pos q] at h
    exact ⟨q.1, q.2, (Bool.and_eq_true_iff.mp h).1⟩
  · rw [finF, if_neg q] at h; cases h
theorem fin_back {T : Nat → Nat → Bool} {n : Nat} : ∀ (m w r : Nat), w + r ≤ m → reF T w r = true → finF T n w r = true → finF T n 0 0 = true
  | m, w, r, hm, h1, h2 => by
    obtain ⟨hw, hr, ht⟩ := fin_in h2
    rcases (reF_eq.mp h1).2 with ⟨rfl, rfl⟩ | ⟨v, rfl, h⟩ | ⟨s, rfl, h⟩
    · exact h2
    · have : finF T n v r = true := by
        rw [finF_eq, (reF_eq.mp h).1, h2]
        simp [hw]
      cases m with
      | zero => omega
      | succ m => exact fin_back m v r (by omega) h this
    · have : finF T n w s = true := by
        rw [finF_eq, (reF_eq.mp h).1, h2]
        simp [hr]
      cases m with
      | zero => omega
      | succ m => exact fin_back m w s (by omega) h this
theorem fin_end {T : Nat → Nat → Bool} {n : Nat} (hn : 0 < n) (h : T (n - 1) (n - 1) = true) : finF T n (n - 1) (n - 1) = true := by
  rw [finF_eq, h, decide_eq_true (show n - 1 + 1 = n ∧ n - 1 + 1 = n by omega)]; rfl
theorem tab_self {As : List (List Fld)} (hA : ∀ A ∈ As, EdOk A) {w : Nat} (hw : w < As.length) : tab0 As w w = true := by
  unfold tab0
  rw [List.getElem?_eq_getElem hw]
  exact rdB_self (hA _ (List.getElem_mem hw)) _
/-! ### a plan walked -/
theorem wr_mem {c : Str} (h : c = Str.ofString "w" ∨ c = Str.ofString "r") : decide (D.str c ∈ [D.str (Str.ofString "w"), D.str (Str.ofString "r")]) = true := decide_eq_true (by rcases h with rfl | rfl <;> simp)
theorem wr_nb : ∀ y ∈ [D.str (Str.ofString "w"), D.str (Str.ofString "r")], nb 58 y = true := fun y hy => by
  simp only [List.mem_cons, List.not_mem_nil, or_false] at hy
  rcases hy with rfl | rfl <;> rfl
theorem spec_walked {T : Nat → Nat → Bool} {n : Nat} {z : Str} {Q : RV → List RV → Prop} {E : D → List RV → Prop} (hn : 0 < n) (hn2 : n ≤ 20) (h00 : finF T n 0 0 = true) (hz : z.cps.toList = fstC (finF T n) n (2 * n - 2) 0 0)
    (k : Q (.d (.bl true)) [.d (.str z), .olst (gridD n T)]) : dn_law_walked [.d (.str z), .olst (gridD n T)] Q E := by
  refine ⟨rfl, ?_⟩
  unfold ss_law_walked
  have hlen : (chars z).length = 2 * n - 2 := by unfold chars; rw [List.length_map, hz, fstC_len]
  have hzl : z.length = 2 * n - 2 := by
    have : z.cps.toList.length = 2 * n - 2 := by rw [hz, fstC_len]
    exact this
  have hzs : z.length ≤ sizeLine := by rw [hzl, sizeLine_eq]; omega
  have hzi : (z.length : Int) = 2 * (n : Int) - 2 := by omega
  walk_at "mp"
  rw [grid_len]
  walk_at "mp"
  refine for0 (I := fun j e => ∃ (w r : Nat) (w5 : Option RV), e = [some (.d (.str z)), some (.olst (gridD n T)), some (.d (.int n)), some (.d (.int w)), some (.d (.int r)), w5] ∧ w < n ∧ r < n ∧ finF T n w r = true ∧ w + r = j ∧ (fstC (finF T n) n (2 * n - 2) 0 0).drop j = fstC (finF T n) n (2 * n - 2 - j) w r) ⟨0, 0, _, rfl, hn, hn, h00, rfl, rfl⟩ ?_ ?_
  · rintro j x e NX hx ⟨w, r, w5, rfl, hw, hr, hF, hj, hd⟩ hN
    have hjl : j < 2 * n - 2 := by have := (List.getElem?_eq_some_iff.mp hx).1; rw [hlen] at this; exact this
    have ne : ¬ (w + 1 = n ∧ r + 1 = n) := by omega
    obtain ⟨m', hm'⟩ : ∃ m', 2 * n - 2 - j = m' + 1 := ⟨2 * n - 2 - j - 1, by omega⟩
    have hm2 : 2 * n - 2 - (j + 1) = m' := by omega
    have e1 : (r : Int) + 1 = ((r + 1 : Nat) : Int) := by omega
    have e2 : (w : Int) + 1 = ((w + 1 : Nat) : Int) := by omega
    have e3 : (r : Int) + 0 = (r : Nat) := by omega
    have e4 : (w : Int) + 0 = (w : Nat) := by omega
    unfold chars at hx
    rw [List.getElem?_map, Option.map_eq_some_iff] at hx
    obtain ⟨c, hc, rfl⟩ := hx
    rw [hz] at hc
    have hc2 : (fstC (finF T n) n (m' + 1) w r)[0]? = some c := by rw [← hm', ← hd, List.getElem?_drop]; exact hc
    have hd2 : (fstC (finF T n) n (2 * n - 2) 0 0).drop (j + 1) = (fstC (finF T n) n (m' + 1) w r).drop 1 := by rw [← hm', ← hd, List.drop_drop]
    have rr : decide (Str.ofString "r" = Str.ofString "r") = true := by decide +kernel
    have rw' : decide (Str.ofString "r" = Str.ofString "w") = false := by decide +kernel
    have wr : decide (Str.ofString "w" = Str.ofString "r") = false := by decide +kernel
    have ww : decide (Str.ofString "w" = Str.ofString "w") = true := by decide +kernel
    by_cases q : r + 1 < n ∧ finF T n w (r + 1) = true
    · have ec : fstC (finF T n) n (m' + 1) w r = 114 :: fstC (finF T n) n m' w (r + 1) := by
        conv => lhs; unfold fstC
        rw [if_pos q]
      rw [ec] at hc2 hd2
      cases hc2
      show ∃ e1, bindT _ (D.str (sg 114)) _ = some e1 ∧ _
      rw [sgD_r]
      refine ⟨_, rfl, ?_⟩
      walk_at "mp"
      refine c_2 nd_rr avd_d avd_l (gNin_l rfl wr_nb) ?_
      rw [wr_mem (.inr rfl)]
      walk_at "mp"
      simp only [rr, rw', reduceIte, Bool.false_eq_true, decide_true]
      rw [e1, e4]
      walk_at "mp"
      refine c_2 nd_sr (avd_sl rfl) avd_d (gIx_l (grid_at hw)) ?_
      walk_at "mp"
      refine c_2 nd_rr avd_d avd_d (gIx_l (row_at q.1)) ?_
      rw [(fin_in q.2).2.2]
      walk_at "mp"
      refine hN _ ⟨w, r + 1, _, rfl, hw, q.1, q.2, by omega, ?_⟩
      rw [hd2, hm2]; rfl
    · obtain ⟨q1, q2⟩ := fin_on hF hw hr ne q
      have ec : fstC (finF T n) n (m' + 1) w r = 119 :: fstC (finF T n) n m' (w + 1) r := by
        conv => lhs; unfold fstC
        rw [if_neg q]
      rw [ec] at hc2 hd2
      cases hc2
      show ∃ e1, bindT _ (D.str (sg 119)) _ = some e1 ∧ _
      rw [sgD_w]
      refine ⟨_, rfl, ?_⟩
      walk_at "mp"
      refine c_2 nd_rr avd_d avd_l (gNin_l rfl wr_nb) ?_
      rw [wr_mem (.inl rfl)]
      walk_at "mp"
      simp only [ww, wr, reduceIte, Bool.false_eq_true, decide_true]
      rw [e2, e3]
      walk_at "mp"
      refine c_2 nd_sr (avd_sl rfl) avd_d (gIx_l (grid_at q1)) ?_
      walk_at "mp"
      refine c_2 nd_rr avd_d avd_d (gIx_l (row_at hr)) ?_
      rw [(fin_in q2).2.2]
      walk_at "mp"
      exact hN _ ⟨w + 1, r, _, rfl, q1, hr, q2, by omega, by rw [hd2, hm2]; rfl⟩
  · rintro e ⟨w, r, w5, rfl, hw, hr, hF, hj, hd⟩
    walk_at "mp"
    exact k
/-! ### cells that are shut -/
theorem pD2_seq (p : Nat × Nat) : isSeq (pD2 p) = true := rfl
theorem gEq_pp {p q : Nat × Nat} : gEq [pD2 p, pD2 q] = some (.d (.bl (decide (p = q)))) := by
  rw [gEq_seq (pD2_seq p) (pD2_seq q) (pD2_nb [p] _ (List.mem_singleton.mpr rfl)) (pD2_nb [q] _ (List.mem_singleton.mpr rfl))]
  congr 3
  rw [decide_eq_decide]
  exact ⟨pD2_inj, fun e => by rw [e]⟩
theorem cells_sorted {T : Nat → Nat → Bool} {n w : Nat} : (reL T n w).Pairwise fun p q => p.1 < q.1 ∨ (p.1 = q.1 ∧ p.2 < q.2) := by
  unfold reL
  rw [List.pairwise_flatMap]
  refine ⟨fun w hw => ?_, ?_⟩
  · unfold reR
    rw [List.pairwise_map]
    exact (List.Pairwise.filter _ List.pairwise_lt_range).imp fun h => .inr ⟨rfl, h⟩
  · refine List.pairwise_lt_range.imp fun {a b} h x hx y hy => ?_
    obtain ⟨x1, x2⟩ := x
    obtain ⟨y1, y2⟩ := y
    obtain ⟨rfl, _⟩ := reR_mem.mp hx
    obtain ⟨rfl, _⟩ := reR_mem.mp hy
    exact .inl h
theorem lexLt_pp {p q : Nat × Nat} (h : p.1 < q.1 ∨ (p.1 = q.1 ∧ p.2 < q.2)) : HT.lexLt [(p.1 : Int), p.2] [(q.1 : Int), q.2] = true := by
  rw [HT.lexLt_cons]
  by_cases e : (p.1 : Int) = q.1
  · rw [if_pos e, HT.lexLt_cons, if_neg (by omega)]
    exact decide_eq_true (by omega)
  · rw [if_neg e]
    exact decide_eq_true (by omega)
theorem gLt_pp {p q : Nat × Nat} (h : p.1 < q.1 ∨ (p.1 = q.1 ∧ p.2 < q.2)) : gLtT [pD2 p, pD2 q] = some (.d (.bl true)) := by
  show some (RV.d (.bl (HT.lexLt [(p.1 : Int), p.2] [(q.1 : Int), q.2]))) = _
  rw [lexLt_pp h]
theorem pD2_in {L : List (Nat × Nat)} {w r : Nat} {x : D} (hx : x = .tup [.int (w : Nat), .int (r : Nat)]) : x ∈ L.map pD2 ↔ (w, r) ∈ L := by rw [hx]; exact pD2_mem
theorem spec_shut {T : Nat → Nat → Bool} {n : Nat} {Q : RV → List RV → Prop} {E : D → List RV → Prop} (hn : 0 < n) (hn2 : n ≤ 20) (h00 : T 0 0 = true) (hno : reF T (n - 1) (n - 1) = false)
    (k : Q (.d (.bl true)) [.d (.tup ((reL T n n).map pD2)), .olst (gridD n T)]) : dn_law_shut [.d (.tup ((reL T n n).map pD2)), .olst (gridD n T)] Q E := by
  have hm : ∀ a b, (a, b) ∈ reL T n n ↔ a < n ∧ b < n ∧ reF T a b = true := fun a b => reL_mem
  have hs := cells_sorted (T := T) (n := n) (w := n)
  have hl : (reL T n n).length ≤ 400 := Nat.le_trans (reL_len (T := T) (n := n) (w := n)) (by have : n * n ≤ 20 * 20 := Nat.mul_le_mul hn2 hn2; omega)
  obtain ⟨C', hC⟩ : ∃ C', reL T n n = (0, 0) :: C' := by
    have h0 : (0, 0) ∈ reL T n n := (hm 0 0).mpr ⟨hn, hn, by unfold reF; exact h00⟩
    cases q : reL T n n with
    | nil => rw [q] at h0; cases h0
    | cons p C' =>
      rw [q] at h0 hs
      rcases List.mem_cons.mp h0 with e | e
      · exact ⟨C', by rw [← e]⟩
      · have := (List.pairwise_cons.mp hs).1 _ e
        simp at this
  rw [hC] at k hm hs hl ⊢
  clear hC
  generalize hCC : (0, 0) :: C' = C at k hm hs hl ⊢
  refine ⟨rfl, ?_⟩
  unfold ss_law_shut
  have en : (n : Int) - 1 = ((n - 1 : Nat) : Int) := by omega
  walk_at "mp"
  rw [grid_len]
  walk_at "mp"
  have he : (C.map pD2).isEmpty = false := by rw [← hCC]; rfl
  have h0 : (C.map pD2)[0]? = some (pD2 (0, 0)) := by rw [← hCC]; rfl
  have nbC : ∀ y ∈ C.map pD2, nb 58 y = true := pD2_nb C
  have nin : decide (D.tup [.int (n - 1 : Nat), .int (n - 1 : Nat)] ∈ C.map pD2) = false := decide_eq_false fun z => by
    have := (hm _ _).mp (pD2_mem.mp z)
    rw [hno] at this; exact absurd this.2.2 (by decide)
  rw [he]
  walk_at "mp"
  refine c_2 nd_rr avd_d avd_d (gIx_t (atI_int (by decide) h0)) ?_
  walk_at "mp"
  refine c_2 nd_rr avd_d avd_d (gNe_of (gEq_pp (p := (0, 0)) (q := (0, 0)))) ?_
  walk_at "mp"
  rw [en]
  refine c_2 nd_rr avd_d avd_d (gIn_t rfl nbC) ?_
  rw [nin]
  walk_at "mp"
  refine for0 (I := fun j e => ∃ (w3 w5 w6 : Option RV), e = [some (.d (.tup (C.map pD2))), some (.olst (gridD n T)), some (.d (.int n)), w3, none, w5, w6]) ⟨_, _, _, rfl⟩ ?_ ?_
  · rintro j x e NX hx ⟨w3, w5, w6, rfl⟩ hN
    rw [List.getElem?_map, Option.map_eq_some_iff] at hx
    obtain ⟨⟨a, b⟩, hp, rfl⟩ := hx
    obtain ⟨ha, hb, hr⟩ := (hm a b).mp (List.mem_of_getElem? hp)
    have ht := (reF_eq.mp hr).1
    have i1 : decide ((a : Int) < (n : Int)) = true := decide_eq_true (by omega)
    have i2 : decide ((b : Int) < (n : Int)) = true := decide_eq_true (by omega)
    show ∃ e1, bindT _ (D.tup [.int (a : Nat), .int (b : Nat)]) _ = some e1 ∧ _
    refine ⟨_, rfl, ?_⟩
    walk_at "mp"
    refine lc_pure (f := fun _ => some (.bl true)) (by show 0 + 2 ≤ _; rw [sizeLine_eq]; omega) (fun x N hx hN => ?_) ?_
    · refine ⟨trivial, _, rfl, ?_⟩
      simp only [List.mem_cons, List.not_mem_nil, or_false] at hx
      rcases hx with rfl | rfl <;> (walk_at "mp"; exact hN)
    refine ⟨trivial, ?_⟩
    walk_at "mp"
    refine c_1 avd_l (gAll_ok (bs := [true, true])) ?_
    walk_at "mp"
    refine lc_pure (f := fun _ => some (.bl false)) (by show 0 + 2 ≤ _; rw [sizeLine_eq]; omega) (fun x N hx hN => ?_) ?_
    · refine ⟨trivial, _, rfl, ?_⟩
      simp only [List.mem_cons, List.not_mem_nil, or_false] at hx
      rcases hx with rfl | rfl
      · walk_at "mp"
        rw [i1]
        exact hN
      · walk_at "mp"
        rw [i2]
        exact hN
    refine ⟨trivial, ?_⟩
    walk_at "mp"
    refine c_1 avd_l (gAny_ok (bs := [false, false])) ?_
    walk_at "mp"
    refine c_2 nd_sr (avd_sl rfl) avd_d (gIx_l (grid_at ha)) ?_
    walk_at "mp"
    refine c_2 nd_rr avd_d avd_d (gIx_l (row_at hb)) ?_
    rw [ht]
    walk_at "mp"
    refine c_2 nd_rr avd_d avd_d (gNe_of (gEq_pp (p := (a, b)) (q := (0, 0)))) ?_
    walk_at "mp"
    apply ite_ndec <;> intro h1
    case' h2 =>
      walk_at "mp"
      refine c_2 nd_rr avd_d avd_d (gNin_t rfl nbC) ?_
      walk_at "mp"
      apply ite_ndec <;> intro h2
      case' h2 =>
        have m2 : D.tup [.int (a : Nat), .int ((b : Int) - 1)] ∈ C.map pD2 := by
          rcases (reF_eq.mp hr).2 with ⟨rfl, rfl⟩ | ⟨v, rfl, h⟩ | ⟨s, rfl, h⟩
          · exact absurd rfl h1
          · refine absurd ?_ h2
            rw [show ((v + 1 : Nat) : Int) - 1 = (v : Nat) by omega, pD2_mem]
            exact (hm _ _).mpr ⟨by omega, hb, h⟩
          · rw [show ((s + 1 : Nat) : Int) - 1 = (s : Nat) by omega, pD2_mem]
            exact (hm _ _).mpr ⟨ha, by omega, h⟩
        walk_at "mp"
        refine c_2 nd_rr avd_d avd_d (gNin_t rfl nbC) ?_
        walk_at "mp"
    all_goals
      walk_at "mp"
      refine for0 (I := fun j e => ∃ (w5 w6 : Option RV), e = [some (.d (.tup (C.map pD2))), some (.olst (gridD n T)), some (.d (.int n)), some (.d (.tup [.int (a : Nat), .int (b : Nat)])), none, w5, w6]) ⟨_, _, rfl⟩ ?_ ?_
      · rintro j2 x e NX2 hx ⟨w5, w6, rfl⟩ hN2
        obtain ⟨c, d, rfl, hcd⟩ : ∃ c d : Nat, x = .tup [.int (c : Nat), .int (d : Nat)] ∧ (T c d = true → c < n → d < n → (c, d) ∈ C) := by
          match j2, hx with
          | 0, hx => cases hx; exact ⟨a + 1, b, rfl, fun q hc hd => (hm _ _).mpr ⟨hc, hd, reF_eq.mpr ⟨q, .inr (.inl ⟨a, rfl, hr⟩)⟩⟩⟩
          | 1, hx => cases hx; exact ⟨a, b + 1, rfl, fun q hc hd => (hm _ _).mpr ⟨hc, hd, reF_eq.mpr ⟨q, .inr (.inr ⟨b, rfl, hr⟩)⟩⟩⟩
          | _ + 2, hx => cases hx
        refine ⟨_, rfl, ?_⟩
        walk_at "mp"
        apply ite_dec <;> intro hc
        · walk_at "mp"
          apply ite_dec <;> intro hd
          · walk_at "mp"
            refine c_2 nd_sr (avd_sl rfl) avd_d (gIx_l (grid_at (w := c) (by omega))) ?_
            walk_at "mp"
            refine c_2 nd_rr avd_d avd_d (gIx_l (row_at (r := d) (by omega))) ?_
            walk_at "mp"
            apply ite_bl <;> intro hq
            · have hin := pD2_mem.mpr (hcd hq (by omega) (by omega))
              walk_at "mp"
              refine c_2 nd_rr avd_d avd_d (gNin_t rfl nbC) ?_
              walk_at "mp"
              exact hN2 _ ⟨_, _, rfl⟩
            · walk_at "mp"
              exact hN2 _ ⟨_, _, rfl⟩
          · walk_at "mp"
            exact hN2 _ ⟨_, _, rfl⟩
        · walk_at "mp"
          exact hN2 _ ⟨_, _, rfl⟩
      · rintro e ⟨w5, w6, rfl⟩
        exact hN _ ⟨_, _, _, rfl⟩
  · rintro e ⟨w3, w5, w6, rfl⟩
    have hlm : (C.map pD2).length ≤ 400 := by rw [List.length_map]; exact hl
    have hl1 : 1 ≤ (C.map pD2).length := by rw [← hCC]; simp
    walk_at "mp"
    rw [show ((C.map pD2).length : Int) - 1 = (((C.map pD2).length - 1 : Nat) : Int) by omega]
    refine lc_pure (f := fun _ => some (.bl true)) (by rw [rng_len, sizeLine_eq]; show 0 + _ ≤ _; omega) (fun x N hx hN => ?_) ?_
    · obtain ⟨i, hi, rfl⟩ := rng_mem hx
      rw [List.length_map] at hi
      have g1 : (C.map pD2)[i]? = some (pD2 (C[i]'(by omega))) := by rw [List.getElem?_map, List.getElem?_eq_getElem (by omega)]; rfl
      have g2 : (C.map pD2)[i + 1]? = some (pD2 (C[i + 1]'(by omega))) := by rw [List.getElem?_map, List.getElem?_eq_getElem (by omega)]; rfl
      refine ⟨trivial, _, rfl, ?_⟩
      walk_at "mp"
      refine c_2 nd_rr avd_d avd_d (gIx_t (atI_nat g1)) ?_
      walk_at "mp"
      rw [show (i : Int) + 1 = ((i + 1 : Nat) : Int) by omega]
      refine c_2 nd_rr avd_d avd_d (gIx_t (atI_nat g2)) ?_
      walk_at "mp"
      refine c_2 nd_rr avd_d avd_d (gLt_pp (List.pairwise_iff_getElem.mp hs i (i + 1) (by omega) (by omega) (by omega))) ?_
      exact hN
    refine ⟨trivial, ?_⟩
    have eb : ([] : List D) ++ (rangeD 0 ((((C.map pD2).length - 1 : Nat)) : Int)).filterMap (fun _ => some (D.bl true)) = ((rangeD 0 ((((C.map pD2).length - 1 : Nat)) : Int)).map fun _ => true).map D.bl := by
      rw [List.nil_append, List.map_map]
      exact congrFun (List.filterMap_eq_map (f := fun _ => D.bl true)) _
    rw [eb]
    walk_at "mp"
    rw [show (((rangeD 0 ((((C.map pD2).length - 1 : Nat)) : Int)).map fun _ => true).all id) = true by simp]
    exact k
/-! ### an answer held against a table -/
theorem ga_steps {s c : D} : gAttr [Str.ofString "Plan"] (Str.ofString "steps") [.ins (Str.ofString "Plan") (planD s c)] = some (.d s) := gAttr_ok (List.Mem.head _) rfl
theorem ga_cells {s c : D} : gAttr [Str.ofString "Plan"] (Str.ofString "cells") [.ins (Str.ofString "Plan") (planD s c)] = some (.d c) := gAttr_ok (List.Mem.head _) rfl
theorem c_possible {E : XE} {env : En} {i : Nat} {s c : D} {K : AV → En → Prop} (h : env[i]? = some (some (.oins (Str.ofString "Plan") (planD s c)))) (k : K (.rv (.d (.bl (!isN s)))) env) : callDen (clsD (Str.ofString "Plan") dn_Plan_is_possible) [.slot i] env K E := by
  have g : gets env [.slot i] = some [.oins (Str.ofString "Plan") (planD s c)] := by
    show (match (env[i]?).join with | some x => (gets env []).map (x :: ·) | none => none) = _
    rw [h]; rfl
  have k2 : K (.rv (.d (.bl (!isN s)))) (puts env [.slot i] [.oins (Str.ofString "Plan") (planD s c)]) := by rw [puts_same g]; exact k
  refine ⟨by simp [slots], _, g, ⟨_, _, rfl, rfl⟩, rfl, ?_⟩
  unfold ss_Plan_is_possible
  walk_at "mp"
  refine c_1 (avd_sins rfl) ga_steps ?_
  walk_at "mp"
  exact k2
theorem spec_right {T : Nat → Nat → Bool} {n : Nat} {r : RV} {Q : RV → List RV → Prop} {E : D → List RV → Prop} (hn : 0 < n) (hn2 : n ≤ 20) (h00 : T 0 0 = true) (hr : PlanIs T n r)
    (k : Q (.d (.bl true)) [r, .olst (gridD n T)]) : dn_law_right [r, .olst (gridD n T)] Q E := by
  rcases hr with ⟨hF, z, hz, rfl⟩ | ⟨hF, rfl⟩
  · refine ⟨rfl, ?_⟩
    unfold ss_law_right
    walk_at "mp"
    refine c_possible rfl ?_
    walk_at "mp"
    refine c_2 nd_rr avd_d avd_d gIsB_ok ?_
    walk_at "mp"
    refine c_1 (avd_sins rfl) ga_cells ?_
    walk_at "mp"
    refine c_1 (avd_sins rfl) ga_steps ?_
    walk_at "mp"
    refine ⟨nd_rs, [.d (.str z), .olst (gridD n T)], rfl, spec_walked hn hn2 hF hz ?_⟩
    walk_at "mpP"
    walk_at "mp"
    exact k
  · refine ⟨rfl, ?_⟩
    unfold ss_law_right
    walk_at "mp"
    refine c_possible rfl ?_
    walk_at "mp"
    refine c_2 nd_rr avd_d avd_d gIsB_ok ?_
    walk_at "mp"
    refine c_possible rfl ?_
    walk_at "mp"
    refine c_2 nd_rr avd_d avd_d gIsB_ok ?_
    walk_at "mp"
    refine c_1 (avd_sins rfl) ga_steps ?_
    walk_at "mp"
    refine c_1 (avd_sins rfl) ga_cells ?_
    walk_at "mp"
    refine ⟨nd_rs, [.d (.tup ((reL T n n).map pD2)), .olst (gridD n T)], rfl, spec_shut hn hn2 h00 ?_ ?_⟩
    · cases q : reF T (n - 1) (n - 1) with
      | false => rfl
      | true => exact absurd ((fin_back _ _ _ (Nat.le_refl _) q (fin_end hn (reF_eq.mp q).1)).symm.trans hF) (by decide)
    walk_at "mpP"
    walk_at "mp"
    exact k
theorem PlanIs.ins {T : Nat → Nat → Bool} {n : Nat} {r : RV} (h : PlanIs T n r) : ∃ s c, r = .oins (Str.ofString "Plan") (planD s c) := by
  rcases h with ⟨_, z, _, rfl⟩ | ⟨_, rfl⟩
  · exact ⟨_, _, rfl⟩
  · exact ⟨_, _, rfl⟩
theorem PlanIs.uniq {T : Nat → Nat → Bool} {n : Nat} {r r' : RV} (h : PlanIs T n r) (h' : PlanIs T n r') : r = r' := by
  rcases h with ⟨q, z, hz, rfl⟩ | ⟨q, rfl⟩
  · rcases h' with ⟨_, z', hz', rfl⟩ | ⟨q', _⟩
    · have : z = z' := TL.ext_tl (hz.trans hz'.symm)
      rw [this]
    · rw [q] at q'; cases q'
  · rcases h' with ⟨q', _⟩ | ⟨_, rfl⟩
    · rw [q] at q'; cases q'
    · rfl
theorem nb_cells (L : List (Nat × Nat)) : nb 58 (.tup (L.map pD2)) = true := by
  show (L.map pD2).all (nb 57) = true
  rw [List.all_eq_true]
  intro x hx
  obtain ⟨p, _, rfl⟩ := List.mem_map.mp hx
  rfl
theorem gT_00 {st : Bool} {As : List (List Fld)} (hA : ∀ A ∈ As, EdOk A) (hn : 0 < As.length) : gT st (tab0 As) 0 0 = true := tab_self hA hn
theorem spec_ed0 {Q : RV → List RV → Prop} {E : D → List RV → Prop} (k : Q (.d .non) [.oins (Str.ofString "Edition") [(Str.ofString "fields", .tup [])], .olst []]) : dn_Edition_init [.oins (Str.ofString "Edition") [], .olst []] Q E :=
  spec_edinit (A := []) (by simp) List.nodup_nil List.nodup_nil fun S hS _ => by
    have : S = [] := List.perm_nil.mp hS
    subst this
    exact k
theorem gIsi_plan {s c : D} : True := trivial
/-! ### the law -/
theorem rng_any {j : Int} {k : Nat} {x : D} (h : (rangeD 0 j)[k]? = some x) : ∃ i : Int, x = D.int i ∧ 0 ≤ i ∧ i < j := by
  unfold rangeD at h
  rw [List.getElem?_map, Option.map_eq_some_iff] at h
  obtain ⟨i, hi, rfl⟩ := h
  have hk := (List.getElem?_eq_some_iff.mp hi).1
  rw [List.length_range] at hk
  rw [List.getElem?_range hk] at hi
  cases hi
  exact ⟨_, rfl, by omega, by omega⟩
/-- the editions of some shapes -/
def EdsOf (As Ss : List (List Fld)) : Prop := ∀ (i : Nat) (S : List Fld), Ss[i]? = some S → ∃ A, As[i]? = some A ∧ S.Perm A
theorem EdsOf.ok {As Ss : List (List Fld)} (hA : ∀ A ∈ As, EdOk A) (h : EdsOf As Ss) : ∀ S ∈ Ss, EdOk S := fun S hS => by
  obtain ⟨i, hi⟩ := List.getElem?_of_mem hS
  obtain ⟨A, h1, h2⟩ := h i S hi
  exact (hA A (List.mem_of_getElem? h1)).perm h2
theorem EdsOf.more {As Ss : List (List Fld)} {j : Nat} {S A : List Fld} (h : EdsOf As Ss) (hl : Ss.length = j) (hA : As[j]? = some A) (hp : S.Perm A) : EdsOf As (Ss ++ [S]) := fun i2 S2 h2 => by
  by_cases q : i2 < Ss.length
  · rw [List.getElem?_append_left q] at h2
    exact h i2 S2 h2
  · have : i2 = j := by
      have := (List.getElem?_eq_some_iff.mp h2).1
      rw [List.length_append] at this
      simp at this; omega
    subst this
    rw [List.getElem?_append_right (by omega), hl, Nat.sub_self] at h2
    cases h2
    exact ⟨A, hA, hp⟩
theorem spec_law (ns : List Int) (hns : ns.length ≤ 63) : dn_law [.d (.scr (ns.map D.int))] (fun r _ => r = .d (.bl true)) (fun _ _ => False) := by
  refine ⟨rfl, ?_⟩
  unfold ss_law
  have hsl : (ns.map D.int).length ≤ 63 := by rw [List.length_map]; exact hns
  walk_at "mp"
  refine for0 (I := fun j e => ∃ w1 w2 w3 w4 w5 w6 w8 w9 wA : Option RV, e = [some (.d (.scr (ns.map D.int))), w1, w2, w3, w4, w5, w6, none, w8, w9, wA]) ⟨_, _, _, _, _, _, _, _, _, rfl⟩ ?_ ?_
  · rintro j x e NX hx ⟨w1, w2, w3, w4, w5, w6, w8, w9, wA, rfl⟩ hN
    obtain ⟨i, rfl, i0, i1⟩ := rng_any hx
    have i2 : i ≤ 100 := by
      have : i < 100 := Int.lt_of_lt_of_le i1 (by split <;> (try split) <;> omega)
      omega
    refine ⟨_, rfl, ?_⟩
    walk_at "mp"
    refine callRv (rs := [_, _]) (spec_deck i0 i2 fun ds dk => ?_)
    walk_at "mp"
    refine callDeck rfl rfl rfl (spec_pool (n := 0) (by omega) dk fun P N ds1 po dk1 => ?_)
    walk_at "mpP"
    walk_at "mp"
    refine call_draw (n := 20) rfl (dk1.mono (by omega)) (by omega) (by omega) (by omega) fun a ds2 a0 a1 dk2 => ?_
    walk_at "mp"
    generalize decide (a = 1) = st
    refine call_draw (n := 21) rfl (dk2.mono (by omega)) (by omega) (by omega) (by omega) fun b ds3 b0 b1 dk3 => ?_
    walk_at "mp"
    refine call_pick (n := 22) rfl (dk3.mono (by omega)) (by omega) (.inr rfl) (by show 0 < 7; omega) (by show 7 < _; omega) fun x ds4 hx4 dk4 => ?_
    obtain ⟨m, rfl, m1, m2⟩ : ∃ m : Int, x = .int m ∧ 1 ≤ m ∧ m ≤ 12 := by
      simp only [List.mem_cons, List.not_mem_nil, or_false] at hx4
      rcases hx4 with rfl | rfl | rfl | rfl | rfl | rfl | rfl
      all_goals exact ⟨_, rfl, by omega, by omega⟩
    walk_at "mp"
    refine callDeck rfl rfl rfl (spec_chain (n := 23) (by omega) (dk4.mono (by omega)) po m1 m2 fun As ds5 hAs hAl dk5 => ?_)
    walk_at "mpP"
    walk_at "mp"
    have hA : ∀ A ∈ As, EdOk A := fun A h => .of po (hAs A h)
    have hl : As.length ≤ 20 := by omega
    have hn : 0 < As.length := by omega
    refine lc0 (I := fun j acc e => e = [some (.d (.scr (ns.map D.int))), some (.d (.int i)), some (.olst ds5), some (.d (poolD P N)), some (.d (.bl st)), some (.d (.lst (As.map shD))), w6, none, w8, w9, wA] ∧ ∃ Ss : List (List Fld), acc = Ss.map edD ∧ Ss.length = j ∧ EdsOf As Ss) ⟨rfl, [], rfl, rfl, fun i S h => by cases h⟩ ?_ ?_
    · rintro j x acc e NX2 hx ⟨rfl, Ss, rfl, hSl, hS⟩ hN2
      rw [List.getElem?_map, Option.map_eq_some_iff] at hx
      obtain ⟨A, hjA, rfl⟩ := hx
      have hj : j < As.length := (List.getElem?_eq_some_iff.mp hjA).1
      refine ⟨trivial, _, rfl, ?_⟩
      walk_at "mp"
      refine callRv (rs := [_]) (spec_edition po (hAs A (List.mem_of_getElem? hjA)) fun S r hp hs hr => ?_)
      refine f_rv ?_
      rw [hr]
      exact hN2 (some (edD S)) _ ⟨by rw [List.length_map, hSl, sizeLine_eq]; omega, rfl, Ss ++ [S], by rw [List.map_append]; rfl, by rw [List.length_append, hSl]; rfl, hS.more hSl hjA hp⟩
    rintro acc e ⟨rfl, Ss, rfl, hSl, hS⟩
    rw [List.length_map] at hSl
    have hT := tab_perm hSl hA hS
    have hE := hS.ok hA
    refine ⟨trivial, ?_⟩
    walk_at "mp"
    refine callDeck (rest := [.rv (.d (.bl st))]) rfl rfl rfl (spec_lplan hE (by omega) (by omega) fun r hr => ?_)
    walk_at "mpP"
    rw [hT, hSl] at hr
    obtain ⟨s1, c1, rfl⟩ := hr.ins
    walk_at "mp"
    refine callDeck (rest := [.rv (.d (.bl (!st)))]) rfl rfl rfl (spec_lplan hE (by omega) (by omega) fun r hr2 => ?_)
    walk_at "mpP"
    rw [hT, hSl] at hr2
    obtain ⟨s2, c2, rfl⟩ := hr2.ins
    have hrl : (Ss.map edD).reverse.length < sizeLine := by rw [List.length_reverse, List.length_map, hSl, sizeLine_eq]; omega
    walk_at "mp"
    refine callRv (rs := [_]) (spec_ed0 ⟨rfl, _, _, rfl, ?_⟩)
    walk_at "mp"
    refine callRv (rs := [_, _]) (spec_table hA hl ?_)
    walk_at "mp"
    refine ⟨nd_sr, [.oins (Str.ofString "Plan") (planD s1 c1), .olst (gridD As.length (gT st (tab0 As)))], rfl, spec_right hn hl (gT_00 hA hn) hr ?_⟩
    walk_at "mpP"
    walk_at "mp"
    refine callRv (rs := [_, _]) (spec_table hA hl ?_)
    walk_at "mp"
    refine ⟨nd_sr, [.oins (Str.ofString "Plan") (planD s2 c2), .olst (gridD As.length (gT (!st) (tab0 As)))], rfl, spec_right hn hl (gT_00 hA hn) hr2 ?_⟩
    walk_at "mpP"
    walk_at "mp"
    refine lc0 (I := fun j acc e => e = [some (.d (.scr (ns.map D.int))), some (.d (.int i)), some (.olst ds5), some (.d (poolD P N)), some (.d (.bl st)), some (.d (.lst (As.map shD))), some (.olst ((Ss.map edD).reverse ++ [edD []])), none, some (.oins (Str.ofString "Plan") (planD s1 c1)), some (.oins (Str.ofString "Plan") (planD s2 c2)), wA] ∧ ∃ Ss : List (List Fld), acc = Ss.map edD ∧ Ss.length = j ∧ EdsOf As Ss) ⟨rfl, [], rfl, rfl, fun i S h => by cases h⟩ ?_ ?_
    · rintro j x acc e NX2 hx ⟨rfl, Ss, rfl, hSl, hS⟩ hN2
      rw [List.getElem?_map, Option.map_eq_some_iff] at hx
      obtain ⟨A, hjA, rfl⟩ := hx
      have hj : j < As.length := (List.getElem?_eq_some_iff.mp hjA).1
      refine ⟨trivial, _, rfl, ?_⟩
      walk_at "mp"
      refine callRv (rs := [_]) (spec_edition po (hAs A (List.mem_of_getElem? hjA)) fun S r hp hs hr => ?_)
      refine f_rv ?_
      rw [hr]
      exact hN2 (some (edD S)) _ ⟨by rw [List.length_map, hSl, sizeLine_eq]; omega, rfl, Ss ++ [S], by rw [List.map_append]; rfl, by rw [List.length_append, hSl]; rfl, hS.more hSl hjA hp⟩
    rintro acc e ⟨rfl, Ss', rfl, hSl', hS'⟩
    rw [List.length_map] at hSl'
    have hT' := tab_perm hSl' hA hS'
    have hE' := hS'.ok hA
    refine ⟨trivial, ?_⟩
    walk_at "mp"
    refine callRv (rs := [.olst (Ss'.map edD), .d (.bl st)]) (spec_lplan hE' (by omega) (by omega) fun r hr3 => ?_)
    rw [hT', hSl'] at hr3
    have := hr.uniq hr3
    subst this
    clear hr3
    rcases hr with ⟨_, z, _, e⟩ | ⟨_, e⟩
    · cases e
      walk_at "mp"
      refine c_1 (avd_sins rfl) ga_steps ?_
      walk_at "mp"
      refine c_1 (avd_sins rfl) ga_steps ?_
      walk_at "mp"
      rw [decide_eq_true (rfl : z = z)]
      walk_at "mp"
      refine c_1 (avd_sins rfl) ga_cells ?_
      walk_at "mp"
      refine c_1 (avd_sins rfl) ga_cells ?_
      walk_at "mp"
      refine c_possible rfl ?_
      walk_at "mp"
      refine c_possible rfl ?_
      walk_at "mp"
      exact hN _ ⟨_, _, _, _, _, _, _, _, _, rfl⟩
    · cases e
      walk_at "mp"
      refine c_1 (avd_sins rfl) ga_steps ?_
      walk_at "mp"
      refine c_1 (avd_sins rfl) ga_steps ?_
      walk_at "mp"
      refine c_1 (avd_sins rfl) ga_cells ?_
      walk_at "mp"
      refine c_1 (avd_sins rfl) ga_cells ?_
      walk_at "mp"
      refine c_2 nd_rr avd_d avd_d (gNe_of (gEq_seq rfl rfl (nb_cells _) (nb_cells _))) ?_
      rw [decide_eq_true rfl]
      walk_at "mp"
      refine c_possible rfl ?_
      walk_at "mp"
      refine c_possible rfl ?_
      walk_at "mp"
      exact hN _ ⟨_, _, _, _, _, _, _, _, _, rfl⟩
  · rintro e ⟨w1, w2, w3, w4, w5, w6, w8, w9, wA, rfl⟩
    walk_at "mp"
    rfl
end Mp
namespace Mp
open PySem PySem.Spec PyProof.Rows L2
section
variable {P : Program} {w : World} {K : PySem.W.Frag} {mg : Str → Option Value} {base : Heap}
theorem pv_Kind_ALL (h : HD fbL fnL K mg) {k : Nat} : PrimOk ⟨P, w, K, mg, base, k⟩ (.attr "ALL") cv_Kind_ALL := k_val fun p hp => by
  rw [List.mem_singleton.mp hp]; exact h.val1 14 15 16 rfl rfl rfl
theorem pv_Kind_TEXT (h : HD fbL fnL K mg) {k : Nat} : PrimOk ⟨P, w, K, mg, base, k⟩ (.attr "TEXT") cv_Kind_TEXT := k_val fun p hp => by
  rw [List.mem_singleton.mp hp]; exact h.val1 14 15 17 rfl rfl rfl
theorem pv_Kind_SMALL (h : HD fbL fnL K mg) {k : Nat} : PrimOk ⟨P, w, K, mg, base, k⟩ (.attr "SMALL") cv_Kind_SMALL := k_val fun p hp => by
  rw [List.mem_singleton.mp hp]; exact h.val1 14 15 19 rfl rfl rfl
theorem pv_Kind_WHOLE (h : HD fbL fnL K mg) {k : Nat} : PrimOk ⟨P, w, K, mg, base, k⟩ (.attr "WHOLE") cv_Kind_WHOLE := k_val fun p hp => by
  rw [List.mem_singleton.mp hp]; exact h.val1 14 15 20 rfl rfl rfl
theorem pv_Kind_SIGNED (h : HD fbL fnL K mg) {k : Nat} : PrimOk ⟨P, w, K, mg, base, k⟩ (.attr "SIGNED") cv_Kind_SIGNED := k_val fun p hp => by
  rw [List.mem_singleton.mp hp]; exact h.val1 14 15 36 rfl rfl rfl
theorem pa_number (h : HD fbL fnL K mg) {k : Nat} : PrimOk ⟨P, w, K, mg, base, k⟩ (.attr "number") at_number := k_attr fun cn hc => by
  simp only [List.mem_cons, List.not_mem_nil, or_false] at hc
  rcases hc with rfl
  · exact h.setOk 22 23 24 rfl rfl rfl
theorem pa_name (h : HD fbL fnL K mg) {k : Nat} : PrimOk ⟨P, w, K, mg, base, k⟩ (.attr "name") at_name := k_attr fun cn hc => by
  simp only [List.mem_cons, List.not_mem_nil, or_false] at hc
  rcases hc with rfl
  · exact h.setOk 22 23 25 rfl rfl rfl
theorem pa_fields (h : HD fbL fnL K mg) {k : Nat} : PrimOk ⟨P, w, K, mg, base, k⟩ (.attr "fields") at_fields := k_attr fun cn hc => by
  simp only [List.mem_cons, List.not_mem_nil, or_false] at hc
  rcases hc with rfl
  · exact h.setOk 32 33 34 rfl rfl rfl
theorem pa_preset (h : HD fbL fnL K mg) {k : Nat} : PrimOk ⟨P, w, K, mg, base, k⟩ (.attr "preset") at_preset := k_attr fun cn hc => by
  simp only [List.mem_cons, List.not_mem_nil, or_false] at hc
  rcases hc with rfl
  · exact h.setOk 22 23 27 rfl rfl rfl
theorem pa_kind (h : HD fbL fnL K mg) {k : Nat} : PrimOk ⟨P, w, K, mg, base, k⟩ (.attr "kind") at_kind := k_attr fun cn hc => by
  simp only [List.mem_cons, List.not_mem_nil, or_false] at hc
  rcases hc with rfl
  · exact h.setOk 22 23 26 rfl rfl rfl
theorem pa_steps (h : HD fbL fnL K mg) {k : Nat} : PrimOk ⟨P, w, K, mg, base, k⟩ (.attr "steps") at_steps := k_attr fun cn hc => by
  simp only [List.mem_cons, List.not_mem_nil, or_false] at hc
  rcases hc with rfl
  · exact h.setOk 39 40 41 rfl rfl rfl
theorem pa_cells (h : HD fbL fnL K mg) {k : Nat} : PrimOk ⟨P, w, K, mg, base, k⟩ (.attr "cells") at_cells := k_attr fun cn hc => by
  simp only [List.mem_cons, List.not_mem_nil, or_false] at hc
  rcases hc with rfl
  · exact h.setOk 39 40 42 rfl rfl rfl
/-! law_deck -/
theorem sc_law_deck : FnScope N_law_deck P_law_deck (defScope st_law_deck) := ⟨rfl, rfl, rfl, by decide +kernel, rfl, by decide +kernel, by decide +kernel⟩
theorem mt_law_deck : mtSs N_law_deck (defScope st_law_deck) ss_law_deck (defBody st_law_deck) = true := by kernel_rfl
theorem wf_law_deck (h : HD fbL fnL K mg) : WfTs ⟨P, w, K, mg, base, 0⟩ ss_law_deck := ⟨⟨⟨k_lt, ⟨trivial, ⟨⟨k_len (h.free 0 rfl), ⟨trivial, trivial⟩⟩, trivial⟩⟩⟩, ⟨k_int (h.free 4 rfl), ⟨⟨k_ixA, ⟨trivial, ⟨trivial, trivial⟩⟩⟩, trivial⟩⟩, trivial⟩, ⟨⟨⟨⟨k_ge, ⟨⟨k_abs (h.free 5 rfl), ⟨trivial, trivial⟩⟩, ⟨⟨k_pow, ⟨trivial, ⟨trivial, trivial⟩⟩⟩, trivial⟩⟩⟩, ⟨k_abs (h.free 5 rfl), ⟨trivial, trivial⟩⟩, trivial⟩, ⟨⟨k_mod, ⟨trivial, ⟨trivial, trivial⟩⟩⟩, ⟨trivial, ⟨trivial, trivial⟩⟩⟩⟩, trivial⟩⟩
theorem ok_law_deck (h : HD fbL fnL K mg) : ∃ fd, (∃ dvs kws, FunD K "_law_deck" "_law_deck" (defArgs st_law_deck) (defBody st_law_deck) (defScope st_law_deck) dvs kws (He.ga K "_law_deck") fd ∧ dvs = da_law_deck.dvs K ∧ kws = da_law_deck.kws K) ∧ FnOk P w K mg base CX0 1 (He.ga K "_law_deck") fd P_law_deck (spD K mg dn_law_deck) := by
  obtain ⟨fd, F⟩ := h.def_ 0 (d := da_law_deck) rfl
  exact ⟨fd, ⟨_, _, F, rfl, rfl⟩, def_ok F sc_law_deck mt_law_deck (wf_law_deck h)⟩
theorem pr_law_deck_2 (h : HD fbL fnL K mg) {k : Nat} (hk : 1 ≤ k) : PrimOk ⟨P, w, K, mg, base, k⟩ (.call "_law_deck") dn_law_deck := by
  obtain ⟨fd, ⟨dvs, kws, F, e1, e2⟩, G⟩ := ok_law_deck (P := P) (w := w) (base := base) h
  subst e1 e2
  have B : Binds K fd P_law_deck [] := FunD.bindsN (ps := P_law_deck) (kws := []) F fun _ _ _ _ _ _ us hl => match us, hl with | [_, _], _ => rfl
  exact k_fn G hk (h.glo 43 rfl) F.kp B .nil conv0 rfl
/-! law_draw -/
theorem sc_law_draw : FnScope N_law_draw P_law_draw (defScope st_law_draw) := ⟨rfl, rfl, rfl, by decide +kernel, rfl, by decide +kernel, by decide +kernel⟩
theorem mt_law_draw : mtSs N_law_draw (defScope st_law_draw) ss_law_draw (defBody st_law_draw) = true := by kernel_rfl
theorem wf_law_draw (h : HD fbL fnL K mg) : WfTs ⟨P, w, K, mg, base, 0⟩ ss_law_draw := ⟨⟨⟨k_gt, ⟨⟨k_ixA, ⟨trivial, ⟨trivial, trivial⟩⟩⟩, ⟨trivial, trivial⟩⟩⟩, ⟨⟨k_mod, ⟨⟨k_int (h.free 4 rfl), ⟨⟨k_ixA, ⟨trivial, ⟨trivial, trivial⟩⟩⟩, trivial⟩⟩, ⟨trivial, trivial⟩⟩⟩, ⟨⟨trivial, ⟨k_fdiv, ⟨⟨k_ixA, ⟨trivial, ⟨trivial, trivial⟩⟩⟩, ⟨trivial, trivial⟩⟩⟩⟩, ⟨trivial, trivial⟩⟩⟩, trivial⟩, ⟨⟨trivial, ⟨k_add, ⟨⟨k_ixA, ⟨trivial, ⟨trivial, trivial⟩⟩⟩, ⟨trivial, trivial⟩⟩⟩⟩, ⟨⟨⟨k_eq, ⟨⟨k_ixA, ⟨trivial, ⟨trivial, trivial⟩⟩⟩, ⟨trivial, trivial⟩⟩⟩, ⟨⟨k_mod, ⟨⟨k_int (h.free 4 rfl), ⟨⟨k_add, ⟨⟨k_ixA, ⟨trivial, ⟨trivial, trivial⟩⟩⟩, ⟨⟨k_ixA, ⟨trivial, ⟨trivial, trivial⟩⟩⟩, trivial⟩⟩⟩, trivial⟩⟩, ⟨trivial, trivial⟩⟩⟩, trivial⟩, trivial⟩, ⟨⟨k_mod, ⟨⟨k_int (h.free 4 rfl), ⟨⟨k_pow, ⟨⟨k_add, ⟨⟨k_add, ⟨⟨k_ixA, ⟨trivial, ⟨trivial, trivial⟩⟩⟩, ⟨⟨k_mul, ⟨trivial, ⟨⟨k_ixA, ⟨trivial, ⟨trivial, trivial⟩⟩⟩, trivial⟩⟩⟩, trivial⟩⟩⟩, ⟨⟨k_mul, ⟨trivial, ⟨⟨k_ixA, ⟨trivial, ⟨trivial, trivial⟩⟩⟩, trivial⟩⟩⟩, trivial⟩⟩⟩, ⟨trivial, trivial⟩⟩⟩, trivial⟩⟩, ⟨trivial, trivial⟩⟩⟩, ⟨⟨k_mod, ⟨⟨k_int (h.free 4 rfl), ⟨⟨k_pow, ⟨⟨k_add, ⟨⟨k_add, ⟨trivial, ⟨⟨k_mul, ⟨trivial, ⟨⟨k_ixA, ⟨trivial, ⟨trivial, trivial⟩⟩⟩, trivial⟩⟩⟩, trivial⟩⟩⟩, ⟨trivial, trivial⟩⟩⟩, ⟨trivial, trivial⟩⟩⟩, trivial⟩⟩, ⟨trivial, trivial⟩⟩⟩, ⟨⟨k_mod, ⟨⟨k_int (h.free 4 rfl), ⟨⟨k_fdiv, ⟨trivial, ⟨trivial, trivial⟩⟩⟩, trivial⟩⟩, ⟨trivial, trivial⟩⟩⟩, trivial⟩⟩⟩⟩⟩⟩
theorem ok_law_draw (h : HD fbL fnL K mg) : ∃ fd, (∃ dvs kws, FunD K "_law_draw" "_law_draw" (defArgs st_law_draw) (defBody st_law_draw) (defScope st_law_draw) dvs kws (He.ga K "_law_draw") fd ∧ dvs = da_law_draw.dvs K ∧ kws = da_law_draw.kws K) ∧ FnOk P w K mg base CX0 1 (He.ga K "_law_draw") fd P_law_draw (spD K mg dn_law_draw) := by
  obtain ⟨fd, F⟩ := h.def_ 1 (d := da_law_draw) rfl
  exact ⟨fd, ⟨_, _, F, rfl, rfl⟩, def_ok F sc_law_draw mt_law_draw (wf_law_draw h)⟩
theorem pr_law_draw_2 (h : HD fbL fnL K mg) {k : Nat} (hk : 1 ≤ k) : PrimOk ⟨P, w, K, mg, base, k⟩ (.call "_law_draw") dn_law_draw := by
  obtain ⟨fd, ⟨dvs, kws, F, e1, e2⟩, G⟩ := ok_law_draw (P := P) (w := w) (base := base) h
  subst e1 e2
  have B : Binds K fd P_law_draw [] := FunD.bindsN (ps := P_law_draw) (kws := []) F fun _ _ _ _ _ _ us hl => match us, hl with | [_, _], _ => rfl
  exact k_fn G hk (h.glo 44 rfl) F.kp B .nil conv0 rfl
/-! law_pick -/
theorem sc_law_pick : FnScope N_law_pick P_law_pick (defScope st_law_pick) := ⟨rfl, rfl, rfl, by decide +kernel, rfl, by decide +kernel, by decide +kernel⟩
theorem mt_law_pick : mtSs N_law_pick (defScope st_law_pick) ss_law_pick (defBody st_law_pick) = true := by kernel_rfl
theorem wf_law_pick (h : HD fbL fnL K mg) : WfTs ⟨P, w, K, mg, base, 1⟩ ss_law_pick := ⟨⟨k_ixA, ⟨trivial, ⟨⟨(pr_law_draw_2 h (by decide)), ⟨trivial, ⟨⟨k_len (h.free 0 rfl), ⟨trivial, trivial⟩⟩, trivial⟩⟩⟩, trivial⟩⟩⟩, trivial⟩
theorem ok_law_pick (h : HD fbL fnL K mg) : ∃ fd, (∃ dvs kws, FunD K "_law_pick" "_law_pick" (defArgs st_law_pick) (defBody st_law_pick) (defScope st_law_pick) dvs kws (He.ga K "_law_pick") fd ∧ dvs = da_law_pick.dvs K ∧ kws = da_law_pick.kws K) ∧ FnOk P w K mg base CX0 2 (He.ga K "_law_pick") fd P_law_pick (spD K mg dn_law_pick) := by
  obtain ⟨fd, F⟩ := h.def_ 2 (d := da_law_pick) rfl
  exact ⟨fd, ⟨_, _, F, rfl, rfl⟩, def_ok F sc_law_pick mt_law_pick (wf_law_pick h)⟩
theorem pr_law_pick_2 (h : HD fbL fnL K mg) {k : Nat} (hk : 2 ≤ k) : PrimOk ⟨P, w, K, mg, base, k⟩ (.call "_law_pick") dn_law_pick := by
  obtain ⟨fd, ⟨dvs, kws, F, e1, e2⟩, G⟩ := ok_law_pick (P := P) (w := w) (base := base) h
  subst e1 e2
  have B : Binds K fd P_law_pick [] := FunD.bindsN (ps := P_law_pick) (kws := []) F fun _ _ _ _ _ _ us hl => match us, hl with | [_, _], _ => rfl
  exact k_fn G hk (h.glo 45 rfl) F.kp B .nil conv0 rfl
/-! law_word -/
theorem sc_law_word : FnScope N_law_word P_law_word (defScope st_law_word) := ⟨rfl, rfl, rfl, by decide +kernel, rfl, by decide +kernel, by decide +kernel⟩
theorem mt_law_word : mtSs N_law_word (defScope st_law_word) ss_law_word (defBody st_law_word) = true := by kernel_rfl
theorem wf_law_word (h : HD fbL fnL K mg) : WfTs ⟨P, w, K, mg, base, 2⟩ ss_law_word := ⟨⟨k_join, trivial, ⟨⟨⟨(h.free 3 rfl), ⟨k_add, ⟨trivial, ⟨⟨(pr_law_draw_2 h (by decide)), ⟨trivial, ⟨trivial, trivial⟩⟩⟩, trivial⟩⟩⟩⟩, trivial, ⟨(pr_law_pick_2 h (by decide)), ⟨trivial, ⟨trivial, trivial⟩⟩⟩⟩, trivial⟩⟩, trivial⟩
theorem ok_law_word (h : HD fbL fnL K mg) : ∃ fd, (∃ dvs kws, FunD K "_law_word" "_law_word" (defArgs st_law_word) (defBody st_law_word) (defScope st_law_word) dvs kws (He.ga K "_law_word") fd ∧ dvs = da_law_word.dvs K ∧ kws = da_law_word.kws K) ∧ FnOk P w K mg base CX0 3 (He.ga K "_law_word") fd P_law_word (spD K mg dn_law_word) := by
  obtain ⟨fd, F⟩ := h.def_ 3 (d := da_law_word) rfl
  exact ⟨fd, ⟨_, _, F, rfl, rfl⟩, def_ok F sc_law_word mt_law_word (wf_law_word h)⟩
theorem pr_law_word_1 (h : HD fbL fnL K mg) {k : Nat} (hk : 3 ≤ k) : PrimOk ⟨P, w, K, mg, base, k⟩ (.call "_law_word") dn_law_word := by
  obtain ⟨fd, ⟨dvs, kws, F, e1, e2⟩, G⟩ := ok_law_word (P := P) (w := w) (base := base) h
  subst e1 e2
  have B : Binds K fd P_law_word [] := FunD.bindsN (ps := P_law_word) (kws := []) F fun _ _ _ _ _ _ us hl => match us, hl with | [_], _ => rfl
  exact k_fn G hk (h.glo 46 rfl) F.kp B .nil conv0 rfl
/-! law_pool -/
theorem sc_law_pool : FnScope N_law_pool P_law_pool (defScope st_law_pool) := ⟨rfl, rfl, rfl, by decide +kernel, rfl, by decide +kernel, by decide +kernel⟩
theorem mt_law_pool : mtSs N_law_pool (defScope st_law_pool) ss_law_pool (defBody st_law_pool) = true := by kernel_rfl
theorem wf_law_pool (h : HD fbL fnL K mg) : WfTs ⟨P, w, K, mg, base, 3⟩ ss_law_pool := ⟨⟨k_sl false true, ⟨(pr_law_word_1 h (by decide)), ⟨trivial, trivial⟩⟩, trivial, ⟨trivial, trivial⟩⟩, ⟨⟨⟨k_eq, ⟨⟨(pr_law_draw_2 h (by decide)), ⟨trivial, ⟨trivial, trivial⟩⟩⟩, ⟨trivial, trivial⟩⟩⟩, ⟨trivial, trivial, ⟨k_add, ⟨trivial, ⟨trivial, trivial⟩⟩⟩⟩, ⟨trivial, trivial, ⟨k_add, ⟨trivial, ⟨trivial, trivial⟩⟩⟩⟩⟩, ⟨⟨⟨⟨k_add, ⟨trivial, ⟨⟨(pr_law_draw_2 h (by decide)), ⟨trivial, ⟨trivial, trivial⟩⟩⟩, trivial⟩⟩⟩, ⟨⟨k_add, ⟨trivial, ⟨⟨(pr_law_draw_2 h (by decide)), ⟨trivial, ⟨trivial, trivial⟩⟩⟩, trivial⟩⟩⟩, ⟨⟨k_sub, ⟨trivial, ⟨⟨(pr_law_draw_2 h (by decide)), ⟨trivial, ⟨trivial, trivial⟩⟩⟩, trivial⟩⟩⟩, trivial⟩⟩⟩, ⟨trivial, trivial⟩⟩, trivial⟩⟩⟩
theorem ok_law_pool (h : HD fbL fnL K mg) : ∃ fd, (∃ dvs kws, FunD K "_law_pool" "_law_pool" (defArgs st_law_pool) (defBody st_law_pool) (defScope st_law_pool) dvs kws (He.ga K "_law_pool") fd ∧ dvs = da_law_pool.dvs K ∧ kws = da_law_pool.kws K) ∧ FnOk P w K mg base CX0 4 (He.ga K "_law_pool") fd P_law_pool (spD K mg dn_law_pool) := by
  obtain ⟨fd, F⟩ := h.def_ 4 (d := da_law_pool) rfl
  exact ⟨fd, ⟨_, _, F, rfl, rfl⟩, def_ok F sc_law_pool mt_law_pool (wf_law_pool h)⟩
theorem pr_law_pool_1 (h : HD fbL fnL K mg) {k : Nat} (hk : 4 ≤ k) : PrimOk ⟨P, w, K, mg, base, k⟩ (.call "_law_pool") dn_law_pool := by
  obtain ⟨fd, ⟨dvs, kws, F, e1, e2⟩, G⟩ := ok_law_pool (P := P) (w := w) (base := base) h
  subst e1 e2
  have B : Binds K fd P_law_pool [] := FunD.bindsN (ps := P_law_pool) (kws := []) F fun _ _ _ _ _ _ us hl => match us, hl with | [_], _ => rfl
  exact k_fn G hk (h.glo 47 rfl) F.kp B .nil conv0 rfl
/-! law_field -/
theorem sc_law_field : FnScope N_law_field P_law_field (defScope st_law_field) := ⟨rfl, rfl, rfl, by decide +kernel, rfl, by decide +kernel, by decide +kernel⟩
theorem mt_law_field : mtSs N_law_field (defScope st_law_field) ss_law_field (defBody st_law_field) = true := by kernel_rfl
theorem wf_law_field (h : HD fbL fnL K mg) : WfTs ⟨P, w, K, mg, base, 2⟩ ss_law_field := ⟨⟨(pr_law_pick_2 h (by decide)), ⟨trivial, ⟨⟨trivial, ⟨trivial, ⟨trivial, ⟨trivial, trivial⟩⟩⟩⟩, trivial⟩⟩⟩, ⟨⟨trivial, ⟨⟨trivial, ⟨trivial, ⟨trivial, trivial⟩⟩⟩, ⟨trivial, ⟨⟨trivial, ⟨trivial, ⟨⟨k_pow, ⟨trivial, ⟨trivial, trivial⟩⟩⟩, trivial⟩⟩⟩, ⟨trivial, ⟨⟨trivial, ⟨trivial, ⟨⟨k_neg, ⟨trivial, trivial⟩⟩, trivial⟩⟩⟩, ⟨trivial, ⟨⟨trivial, ⟨trivial, ⟨trivial, trivial⟩⟩⟩, trivial⟩⟩⟩⟩⟩⟩⟩⟩, ⟨⟨trivial, ⟨trivial, ⟨trivial, ⟨⟨⟨k_eq, ⟨⟨(pr_law_draw_2 h (by decide)), ⟨trivial, ⟨trivial, trivial⟩⟩⟩, ⟨trivial, trivial⟩⟩⟩, ⟨(pr_law_pick_2 h (by decide)), ⟨trivial, ⟨⟨k_ixA, ⟨trivial, ⟨trivial, trivial⟩⟩⟩, trivial⟩⟩⟩, trivial⟩, trivial⟩⟩⟩⟩, trivial⟩⟩⟩
theorem ok_law_field (h : HD fbL fnL K mg) : ∃ fd, (∃ dvs kws, FunD K "_law_field" "_law_field" (defArgs st_law_field) (defBody st_law_field) (defScope st_law_field) dvs kws (He.ga K "_law_field") fd ∧ dvs = da_law_field.dvs K ∧ kws = da_law_field.kws K) ∧ FnOk P w K mg base CX0 3 (He.ga K "_law_field") fd P_law_field (spD K mg dn_law_field) := by
  obtain ⟨fd, F⟩ := h.def_ 5 (d := da_law_field) rfl
  exact ⟨fd, ⟨_, _, F, rfl, rfl⟩, def_ok F sc_law_field mt_law_field (wf_law_field h)⟩
theorem pr_law_field_3 (h : HD fbL fnL K mg) {k : Nat} (hk : 3 ≤ k) : PrimOk ⟨P, w, K, mg, base, k⟩ (.call "_law_field") dn_law_field := by
  obtain ⟨fd, ⟨dvs, kws, F, e1, e2⟩, G⟩ := ok_law_field (P := P) (w := w) (base := base) h
  subst e1 e2
  have B : Binds K fd P_law_field [] := FunD.bindsN (ps := P_law_field) (kws := []) F fun _ _ _ _ _ _ us hl => match us, hl with | [_, _, _], _ => rfl
  exact k_fn G hk (h.glo 48 rfl) F.kp B .nil conv0 rfl
/-! law_start -/
theorem sc_law_start : FnScope N_law_start P_law_start (defScope st_law_start) := ⟨rfl, rfl, rfl, by decide +kernel, rfl, by decide +kernel, by decide +kernel⟩
theorem mt_law_start : mtSs N_law_start (defScope st_law_start) ss_law_start (defBody st_law_start) = true := by kernel_rfl
theorem wf_law_start (h : HD fbL fnL K mg) : WfTs ⟨P, w, K, mg, base, 3⟩ ss_law_start := ⟨⟨⟨k_list (h.free 6 rfl), ⟨⟨k_ixA, ⟨trivial, ⟨trivial, trivial⟩⟩⟩, trivial⟩⟩, ⟨trivial, trivial⟩⟩, ⟨⟨⟨k_ixA, ⟨trivial, ⟨trivial, trivial⟩⟩⟩, ⟨⟨⟨k_eq, ⟨⟨(pr_law_draw_2 h (by decide)), ⟨trivial, ⟨trivial, trivial⟩⟩⟩, ⟨trivial, trivial⟩⟩⟩, ⟨⟨k_append, trivial, ⟨⟨(pr_law_field_3 h (by decide)), ⟨trivial, ⟨trivial, ⟨⟨k_popAt, trivial, ⟨⟨(pr_law_draw_2 h (by decide)), ⟨trivial, ⟨⟨k_len (h.free 0 rfl), ⟨trivial, trivial⟩⟩, trivial⟩⟩⟩, trivial⟩⟩, trivial⟩⟩⟩⟩, trivial⟩⟩, trivial⟩, trivial⟩, trivial⟩⟩, ⟨trivial, trivial⟩⟩⟩
theorem ok_law_start (h : HD fbL fnL K mg) : ∃ fd, (∃ dvs kws, FunD K "_law_start" "_law_start" (defArgs st_law_start) (defBody st_law_start) (defScope st_law_start) dvs kws (He.ga K "_law_start") fd ∧ dvs = da_law_start.dvs K ∧ kws = da_law_start.kws K) ∧ FnOk P w K mg base CX0 4 (He.ga K "_law_start") fd P_law_start (spD K mg dn_law_start) := by
  obtain ⟨fd, F⟩ := h.def_ 6 (d := da_law_start) rfl
  exact ⟨fd, ⟨_, _, F, rfl, rfl⟩, def_ok F sc_law_start mt_law_start (wf_law_start h)⟩
theorem pr_law_start_2 (h : HD fbL fnL K mg) {k : Nat} (hk : 4 ≤ k) : PrimOk ⟨P, w, K, mg, base, k⟩ (.call "_law_start") dn_law_start := by
  obtain ⟨fd, ⟨dvs, kws, F, e1, e2⟩, G⟩ := ok_law_start (P := P) (w := w) (base := base) h
  subst e1 e2
  have B : Binds K fd P_law_start [] := FunD.bindsN (ps := P_law_start) (kws := []) F fun _ _ _ _ _ _ us hl => match us, hl with | [_, _], _ => rfl
  exact k_fn G hk (h.glo 49 rfl) F.kp B .nil conv0 rfl
/-! law_next -/
theorem sc_law_next : FnScope N_law_next P_law_next (defScope st_law_next) := ⟨rfl, rfl, rfl, by decide +kernel, rfl, by decide +kernel, by decide +kernel⟩
theorem mt_law_next : mtSs N_law_next (defScope st_law_next) ss_law_next (defBody st_law_next) = true := by kernel_rfl
theorem wf_law_next (h : HD fbL fnL K mg) : WfTs ⟨P, w, K, mg, base, 4⟩ ss_law_next := ⟨⟨⟨(pr_law_pick_2 h (by decide)), ⟨trivial, ⟨⟨k_ixA, ⟨trivial, ⟨trivial, trivial⟩⟩⟩, trivial⟩⟩⟩, ⟨⟨(pr_law_draw_2 h (by decide)), ⟨trivial, ⟨trivial, trivial⟩⟩⟩, trivial⟩⟩, ⟨⟨trivial, ⟨⟨k_eq, ⟨⟨k_ixA, ⟨trivial, ⟨trivial, trivial⟩⟩⟩, ⟨trivial, trivial⟩⟩⟩, trivial⟩, trivial⟩, ⟨⟨trivial, ⟨⟨k_ne, ⟨⟨k_ixA, ⟨trivial, ⟨trivial, trivial⟩⟩⟩, ⟨trivial, trivial⟩⟩⟩, trivial⟩, trivial⟩, ⟨⟨⟨k_ixA, ⟨trivial, ⟨trivial, trivial⟩⟩⟩, ⟨⟨k_nin, ⟨trivial, ⟨⟨trivial, trivial, ⟨k_ixA, ⟨trivial, ⟨trivial, trivial⟩⟩⟩⟩, trivial⟩⟩⟩, trivial⟩, trivial⟩, ⟨⟨⟨k_eq, ⟨trivial, ⟨trivial, trivial⟩⟩⟩, ⟨⟨k_list (h.free 6 rfl), ⟨trivial, trivial⟩⟩, trivial⟩, trivial⟩, ⟨⟨⟨k_eq, ⟨trivial, ⟨trivial, trivial⟩⟩⟩, ⟨trivial, trivial⟩, trivial⟩, ⟨⟨⟨k_eq, ⟨trivial, ⟨trivial, trivial⟩⟩⟩, ⟨⟨(pr_law_start_2 h (by decide)), ⟨trivial, ⟨trivial, trivial⟩⟩⟩, trivial⟩, trivial⟩, ⟨⟨⟨trivial, ⟨⟨k_eq, ⟨trivial, ⟨trivial, trivial⟩⟩⟩, trivial⟩⟩, ⟨⟨k_add, ⟨trivial, ⟨⟨⟨(pr_law_field_3 h (by decide)), ⟨trivial, ⟨trivial, ⟨⟨(pr_law_pick_2 h (by decide)), ⟨trivial, ⟨trivial, trivial⟩⟩⟩, trivial⟩⟩⟩⟩, trivial⟩, trivial⟩⟩⟩, trivial⟩, trivial⟩, ⟨⟨⟨k_eq, ⟨trivial, ⟨trivial, trivial⟩⟩⟩, ⟨⟨k_add, ⟨trivial, ⟨⟨⟨(pr_law_field_3 h (by decide)), ⟨trivial, ⟨trivial, ⟨⟨k_ixA, ⟨⟨k_ixA, ⟨trivial, ⟨trivial, trivial⟩⟩⟩, ⟨trivial, trivial⟩⟩⟩, trivial⟩⟩⟩⟩, trivial⟩, trivial⟩⟩⟩, trivial⟩, trivial⟩, ⟨⟨⟨k_eq, ⟨⟨k_ixA, ⟨⟨k_ixA, ⟨trivial, ⟨trivial, trivial⟩⟩⟩, ⟨trivial, trivial⟩⟩⟩, ⟨trivial, trivial⟩⟩⟩, trivial, trivial⟩, ⟨⟨k_add, ⟨trivial, ⟨⟨⟨trivial, ⟨⟨k_ixA, ⟨⟨k_ixA, ⟨trivial, ⟨trivial, trivial⟩⟩⟩, ⟨trivial, trivial⟩⟩⟩, ⟨⟨k_ixA, ⟨⟨k_ixA, ⟨trivial, ⟨trivial, trivial⟩⟩⟩, ⟨trivial, trivial⟩⟩⟩, ⟨⟨⟨k_isN, ⟨⟨k_ixA, ⟨⟨k_ixA, ⟨trivial, ⟨trivial, trivial⟩⟩⟩, ⟨trivial, trivial⟩⟩⟩, ⟨trivial, trivial⟩⟩⟩, trivial, trivial⟩, trivial⟩⟩⟩⟩, trivial⟩, trivial⟩⟩⟩, trivial⟩⟩⟩⟩⟩⟩⟩⟩⟩⟩⟩
theorem ok_law_next (h : HD fbL fnL K mg) : ∃ fd, (∃ dvs kws, FunD K "_law_next" "_law_next" (defArgs st_law_next) (defBody st_law_next) (defScope st_law_next) dvs kws (He.ga K "_law_next") fd ∧ dvs = da_law_next.dvs K ∧ kws = da_law_next.kws K) ∧ FnOk P w K mg base CX0 5 (He.ga K "_law_next") fd P_law_next (spD K mg dn_law_next) := by
  obtain ⟨fd, F⟩ := h.def_ 7 (d := da_law_next) rfl
  exact ⟨fd, ⟨_, _, F, rfl, rfl⟩, def_ok F sc_law_next mt_law_next (wf_law_next h)⟩
theorem pr_law_next_3 (h : HD fbL fnL K mg) {k : Nat} (hk : 5 ≤ k) : PrimOk ⟨P, w, K, mg, base, k⟩ (.call "_law_next") dn_law_next := by
  obtain ⟨fd, ⟨dvs, kws, F, e1, e2⟩, G⟩ := ok_law_next (P := P) (w := w) (base := base) h
  subst e1 e2
  have B : Binds K fd P_law_next [] := FunD.bindsN (ps := P_law_next) (kws := []) F fun _ _ _ _ _ _ us hl => match us, hl with | [_, _, _], _ => rfl
  exact k_fn G hk (h.glo 50 rfl) F.kp B .nil conv0 rfl
/-! law_chain -/
theorem sc_law_chain : FnScope N_law_chain P_law_chain (defScope st_law_chain) := ⟨rfl, rfl, rfl, by decide +kernel, rfl, by decide +kernel, by decide +kernel⟩
theorem mt_law_chain : mtSs N_law_chain (defScope st_law_chain) ss_law_chain (defBody st_law_chain) = true := by kernel_rfl
theorem wf_law_chain (h : HD fbL fnL K mg) : WfTs ⟨P, w, K, mg, base, 5⟩ ss_law_chain := ⟨⟨⟨(pr_law_start_2 h (by decide)), ⟨trivial, ⟨trivial, trivial⟩⟩⟩, trivial⟩, ⟨⟨⟨(h.free 3 rfl), ⟨k_sub, ⟨trivial, ⟨trivial, trivial⟩⟩⟩⟩, ⟨⟨k_append, trivial, ⟨⟨(pr_law_next_3 h (by decide)), ⟨trivial, ⟨⟨k_ixA, ⟨trivial, ⟨⟨k_neg, ⟨trivial, trivial⟩⟩, trivial⟩⟩⟩, ⟨trivial, trivial⟩⟩⟩⟩, trivial⟩⟩, trivial⟩⟩, ⟨trivial, trivial⟩⟩⟩
theorem ok_law_chain (h : HD fbL fnL K mg) : ∃ fd, (∃ dvs kws, FunD K "_law_chain" "_law_chain" (defArgs st_law_chain) (defBody st_law_chain) (defScope st_law_chain) dvs kws (He.ga K "_law_chain") fd ∧ dvs = da_law_chain.dvs K ∧ kws = da_law_chain.kws K) ∧ FnOk P w K mg base CX0 6 (He.ga K "_law_chain") fd P_law_chain (spD K mg dn_law_chain) := by
  obtain ⟨fd, F⟩ := h.def_ 8 (d := da_law_chain) rfl
  exact ⟨fd, ⟨_, _, F, rfl, rfl⟩, def_ok F sc_law_chain mt_law_chain (wf_law_chain h)⟩
theorem pr_law_chain_3 (h : HD fbL fnL K mg) {k : Nat} (hk : 6 ≤ k) : PrimOk ⟨P, w, K, mg, base, k⟩ (.call "_law_chain") dn_law_chain := by
  obtain ⟨fd, ⟨dvs, kws, F, e1, e2⟩, G⟩ := ok_law_chain (P := P) (w := w) (base := base) h
  subst e1 e2
  have B : Binds K fd P_law_chain [] := FunD.bindsN (ps := P_law_chain) (kws := []) F fun _ _ _ _ _ _ us hl => match us, hl with | [_, _, _], _ => rfl
  exact k_fn G hk (h.glo 51 rfl) F.kp B .nil conv0 rfl
/-! is_integer -/
theorem sc_is_integer : FnScope N_is_integer P_is_integer (defScope st_is_integer) := ⟨rfl, rfl, rfl, by decide +kernel, rfl, by decide +kernel, by decide +kernel⟩
theorem mt_is_integer : mtSs N_is_integer (defScope st_is_integer) ss_is_integer (defBody st_is_integer) = true := by kernel_rfl
theorem wf_is_integer (h : HD fbL fnL K mg) : WfTs ⟨P, w, K, mg, base, 0⟩ ss_is_integer := ⟨⟨⟨k_isi (h.free 7 rfl) (h.isi 8 rfl), ⟨trivial, ⟨(h.typ 4 rfl (by decide) rfl), trivial⟩⟩⟩, ⟨⟨k_isi (h.free 7 rfl) (h.isi 8 rfl), ⟨trivial, ⟨(h.typ 9 rfl (by decide) rfl), trivial⟩⟩⟩, trivial⟩⟩, trivial⟩
theorem ok_is_integer (h : HD fbL fnL K mg) : ∃ fd, (∃ dvs kws, FunD K "is_integer" "is_integer" (defArgs st_is_integer) (defBody st_is_integer) (defScope st_is_integer) dvs kws (He.ga K "is_integer") fd ∧ dvs = da_is_integer.dvs K ∧ kws = da_is_integer.kws K) ∧ FnOk P w K mg base CX0 1 (He.ga K "is_integer") fd P_is_integer (spD K mg dn_is_integer) := by
  obtain ⟨fd, F⟩ := h.def_ 9 (d := da_is_integer) rfl
  exact ⟨fd, ⟨_, _, F, rfl, rfl⟩, def_ok F sc_is_integer mt_is_integer (wf_is_integer h)⟩
theorem pr_is_integer_1 (h : HD fbL fnL K mg) {k : Nat} (hk : 1 ≤ k) : PrimOk ⟨P, w, K, mg, base, k⟩ (.call "is_integer") dn_is_integer := by
  obtain ⟨fd, ⟨dvs, kws, F, e1, e2⟩, G⟩ := ok_is_integer (P := P) (w := w) (base := base) h
  subst e1 e2
  have B : Binds K fd P_is_integer [] := FunD.bindsN (ps := P_is_integer) (kws := []) F fun _ _ _ _ _ _ us hl => match us, hl with | [_], _ => rfl
  exact k_fn G hk (h.glo 52 rfl) F.kp B .nil conv0 rfl
/-! is_word -/
theorem sc_is_word : FnScope N_is_word P_is_word (defScope st_is_word) := ⟨rfl, rfl, rfl, by decide +kernel, rfl, by decide +kernel, by decide +kernel⟩
theorem mt_is_word : mtSs N_is_word (defScope st_is_word) ss_is_word (defBody st_is_word) = true := by kernel_rfl
theorem wf_is_word (h : HD fbL fnL K mg) : WfTs ⟨P, w, K, mg, base, 0⟩ ss_is_word := ⟨⟨⟨⟨k_isi (h.free 7 rfl) (h.isi 8 rfl), ⟨trivial, ⟨(h.typ 11 rfl (by decide) rfl), trivial⟩⟩⟩, ⟨⟨k_le, k_le, trivial, ⟨k_len (h.free 0 rfl), ⟨trivial, trivial⟩⟩, trivial⟩, trivial⟩⟩, ⟨trivial, trivial⟩, trivial⟩, ⟨⟨k_all (h.free 13 rfl), ⟨⟨trivial, trivial, ⟨k_in, ⟨trivial, ⟨(h.con 12 rfl), trivial⟩⟩⟩⟩, trivial⟩⟩, trivial⟩⟩
theorem ok_is_word (h : HD fbL fnL K mg) : ∃ fd, (∃ dvs kws, FunD K "is_word" "is_word" (defArgs st_is_word) (defBody st_is_word) (defScope st_is_word) dvs kws (He.ga K "is_word") fd ∧ dvs = da_is_word.dvs K ∧ kws = da_is_word.kws K) ∧ FnOk P w K mg base CX0 1 (He.ga K "is_word") fd P_is_word (spD K mg dn_is_word) := by
  obtain ⟨fd, F⟩ := h.def_ 10 (d := da_is_word) rfl
  exact ⟨fd, ⟨_, _, F, rfl, rfl⟩, def_ok F sc_is_word mt_is_word (wf_is_word h)⟩
theorem pr_is_word_1 (h : HD fbL fnL K mg) {k : Nat} (hk : 1 ≤ k) : PrimOk ⟨P, w, K, mg, base, k⟩ (.call "is_word") dn_is_word := by
  obtain ⟨fd, ⟨dvs, kws, F, e1, e2⟩, G⟩ := ok_is_word (P := P) (w := w) (base := base) h
  subst e1 e2
  have B : Binds K fd P_is_word [] := FunD.bindsN (ps := P_is_word) (kws := []) F fun _ _ _ _ _ _ us hl => match us, hl with | [_], _ => rfl
  exact k_fn G hk (h.glo 53 rfl) F.kp B .nil conv0 rfl
/-! Kind_holds -/
theorem sc_Kind_holds : FnScope N_Kind_holds P_Kind_holds (defScope st_Kind_holds) := ⟨rfl, rfl, rfl, by decide +kernel, rfl, by decide +kernel, by decide +kernel⟩
theorem mt_Kind_holds : mtSs N_Kind_holds (defScope st_Kind_holds) ss_Kind_holds (defBody st_Kind_holds) = true := by kernel_rfl
theorem wf_Kind_holds (h : HD fbL fnL K mg) : WfTs ⟨P, w, K, mg, base, 1⟩ ss_Kind_holds := ⟨⟨⟨k_eq, ⟨trivial, ⟨⟨pv_Kind_TEXT h, ⟨(h.cls 14 rfl), trivial⟩⟩, trivial⟩⟩⟩, ⟨⟨⟨k_isi (h.free 7 rfl) (h.isi 8 rfl), ⟨trivial, ⟨(h.typ 11 rfl (by decide) rfl), trivial⟩⟩⟩, ⟨⟨k_le, ⟨⟨k_len (h.free 0 rfl), ⟨trivial, trivial⟩⟩, ⟨(h.con 18 rfl), trivial⟩⟩⟩, trivial⟩⟩, trivial⟩, trivial⟩, ⟨⟨⟨(pr_is_integer_1 h (by decide)), ⟨trivial, trivial⟩⟩, ⟨trivial, trivial⟩, trivial⟩, ⟨⟨⟨k_eq, ⟨trivial, ⟨⟨pv_Kind_SMALL h, ⟨(h.cls 14 rfl), trivial⟩⟩, trivial⟩⟩⟩, ⟨⟨k_le, k_le, trivial, trivial, trivial⟩, trivial⟩, trivial⟩, ⟨⟨⟨k_eq, ⟨trivial, ⟨⟨pv_Kind_WHOLE h, ⟨(h.cls 14 rfl), trivial⟩⟩, trivial⟩⟩⟩, ⟨⟨k_le, k_le, trivial, trivial, (h.con 21 rfl)⟩, trivial⟩, trivial⟩, ⟨⟨k_le, k_le, ⟨k_neg, ⟨(h.con 21 rfl), trivial⟩⟩, trivial, (h.con 21 rfl)⟩, trivial⟩⟩⟩⟩⟩
theorem ok_Kind_holds (h : HD fbL fnL K mg) : ∃ fd, (∃ dvs kws, FunD K "holds" "Kind.holds" (defArgs st_Kind_holds) (defBody st_Kind_holds) (defScope st_Kind_holds) dvs kws (He5.wf K (He.ga K "Kind") "staticmethod" "holds") fd ∧ dvs = da_Kind_holds.dvs K ∧ kws = da_Kind_holds.kws K) ∧ FnOk P w K mg base CX0 2 (He5.wf K (He.ga K "Kind") "staticmethod" "holds") fd P_Kind_holds (spD K mg dn_Kind_holds) := by
  obtain ⟨fd, F⟩ := h.def_ 11 (d := da_Kind_holds) rfl
  exact ⟨fd, ⟨_, _, F, rfl, rfl⟩, def_ok F sc_Kind_holds mt_Kind_holds (wf_Kind_holds h)⟩
theorem me_Kind_holds_2 (h : HD fbL fnL K mg) {k : Nat} (hk : 2 ≤ k) : MethOk ⟨P, w, K, mg, base, k⟩ "holds" (isGlo "Kind") (tailD dn_Kind_holds) := by
  obtain ⟨fd, ⟨dvs, kws, F, e1, e2⟩, G⟩ := ok_Kind_holds (P := P) (w := w) (base := base) h
  subst e1 e2
  have B : Binds K fd P_Kind_holds [] := FunD.bindsN (ps := P_Kind_holds) (kws := []) F fun _ _ _ _ _ _ us hl => match us, hl with | [_, _], _ => rfl
  exact k_stat (h.stat 14 15 54 rfl rfl rfl) G hk B .nil conv0
/-! Field_init -/
theorem sc_Field_init : FnScope N_Field_init P_Field_init (defScope st_Field_init) := ⟨rfl, rfl, rfl, by decide +kernel, rfl, by decide +kernel, by decide +kernel⟩
theorem mt_Field_init : mtSs N_Field_init (defScope st_Field_init) ss_Field_init (defBody st_Field_init) = true := by kernel_rfl
theorem wf_Field_init (h : HD fbL fnL K mg) : WfTs ⟨P, w, K, mg, base, 2⟩ ss_Field_init := ⟨⟨⟨⟨(pr_is_integer_1 h (by decide)), ⟨trivial, trivial⟩⟩, ⟨⟨k_le, k_le, trivial, trivial, (h.con 10 rfl)⟩, trivial⟩⟩, ⟨trivial, trivial⟩, trivial⟩, ⟨⟨⟨(pr_is_word_1 h (by decide)), ⟨trivial, trivial⟩⟩, ⟨trivial, trivial⟩, trivial⟩, ⟨⟨⟨⟨k_isi (h.free 7 rfl) (h.isi 8 rfl), ⟨trivial, ⟨(h.typ 11 rfl (by decide) rfl), trivial⟩⟩⟩, ⟨⟨k_nin, ⟨trivial, ⟨⟨pv_Kind_ALL h, ⟨(h.cls 14 rfl), trivial⟩⟩, trivial⟩⟩⟩, trivial⟩⟩, ⟨trivial, trivial⟩, trivial⟩, ⟨⟨⟨⟨k_notN, ⟨trivial, ⟨trivial, trivial⟩⟩⟩, ⟨⟨(me_Kind_holds_2 h (by decide)), (h.cls 14 rfl), ⟨trivial, ⟨trivial, trivial⟩⟩⟩, trivial⟩⟩, ⟨trivial, trivial⟩, trivial⟩, ⟨⟨h.setOk 22 23 24 rfl rfl rfl, trivial⟩, ⟨⟨h.setOk 22 23 25 rfl rfl rfl, trivial⟩, ⟨⟨h.setOk 22 23 26 rfl rfl rfl, trivial⟩, ⟨⟨h.setOk 22 23 27 rfl rfl rfl, trivial⟩, trivial⟩⟩⟩⟩⟩⟩⟩⟩
theorem ok_Field_init (h : HD fbL fnL K mg) : ∃ fd, (∃ dvs kws, FunD K "__init__" "Field.__init__" (defArgs st_Field_init) (defBody st_Field_init) (defScope st_Field_init) dvs kws (He.ma K (He.ga K "Field") "__init__") fd ∧ dvs = da_Field_init.dvs K ∧ kws = da_Field_init.kws K) ∧ FnOk P w K mg base CX0 3 (He.ma K (He.ga K "Field") "__init__") fd P_Field_init (spD K mg dn_Field_init) := by
  obtain ⟨fd, F⟩ := h.def_ 12 (d := da_Field_init) rfl
  exact ⟨fd, ⟨_, _, F, rfl, rfl⟩, def_ok F sc_Field_init mt_Field_init (wf_Field_init h)⟩
theorem mk_Field_4 (h : HD fbL fnL K mg) {k : Nat} (hk : 4 ≤ k) : PrimOk ⟨P, w, K, mg, base, k⟩ (.call "Field") (mkD "Field" dn_Field_init) := by
  obtain ⟨fd, ⟨dvs, kws, F, e1, e2⟩, G⟩ := ok_Field_init (P := P) (w := w) (base := base) h
  subst e1 e2
  obtain ⟨ds, B0, B⟩ := FunD.binds1 (ps := P_Field_init) F 5 1 (by simp [He5.DefA.dvs, da_Field_init]) (by simp [He5.DefA.dvs, da_Field_init, P_Field_init]) (fun T kV doc pm an cdv ct us its h1 h2 => match us, its, h1, h2 with | [_, _, _, _, _], [_], _, _ => ⟨_, rfl, rfl⟩)
  exact k_mk (h.mkr 55 rfl) G hk (h.glo 22 rfl) B B0 conv0 rfl
/-! clashes -/
theorem sc_clashes : FnScope N_clashes P_clashes (defScope st_clashes) := ⟨rfl, rfl, rfl, by decide +kernel, rfl, by decide +kernel, by decide +kernel⟩
theorem mt_clashes : mtSs N_clashes (defScope st_clashes) ss_clashes (defBody st_clashes) = true := by kernel_rfl
theorem wf_clashes (h : HD fbL fnL K mg) : WfTs ⟨P, w, K, mg, base, 0⟩ ss_clashes := ⟨⟨k_any (h.free 30 rfl), ⟨⟨trivial, trivial, ⟨⟨k_eq, ⟨⟨(pa_number h), ⟨trivial, trivial⟩⟩, ⟨⟨(pa_number h), ⟨trivial, trivial⟩⟩, trivial⟩⟩⟩, ⟨⟨k_eq, ⟨⟨(pa_name h), ⟨trivial, trivial⟩⟩, ⟨⟨(pa_name h), ⟨trivial, trivial⟩⟩, trivial⟩⟩⟩, trivial⟩⟩⟩, trivial⟩⟩, trivial⟩
theorem ok_clashes (h : HD fbL fnL K mg) : ∃ fd, (∃ dvs kws, FunD K "clashes" "clashes" (defArgs st_clashes) (defBody st_clashes) (defScope st_clashes) dvs kws (He.ga K "clashes") fd ∧ dvs = da_clashes.dvs K ∧ kws = da_clashes.kws K) ∧ FnOk P w K mg base CX0 1 (He.ga K "clashes") fd P_clashes (spD K mg dn_clashes) := by
  obtain ⟨fd, F⟩ := h.def_ 13 (d := da_clashes) rfl
  exact ⟨fd, ⟨_, _, F, rfl, rfl⟩, def_ok F sc_clashes mt_clashes (wf_clashes h)⟩
theorem pr_clashes_2 (h : HD fbL fnL K mg) {k : Nat} (hk : 1 ≤ k) : PrimOk ⟨P, w, K, mg, base, k⟩ (.call "clashes") dn_clashes := by
  obtain ⟨fd, ⟨dvs, kws, F, e1, e2⟩, G⟩ := ok_clashes (P := P) (w := w) (base := base) h
  subst e1 e2
  have B : Binds K fd P_clashes [] := FunD.bindsN (ps := P_clashes) (kws := []) F fun _ _ _ _ _ _ us hl => match us, hl with | [_, _], _ => rfl
  exact k_fn G hk (h.glo 56 rfl) F.kp B .nil conv0 rfl
/-! inserted -/
theorem sc_inserted : FnScope N_inserted P_inserted (defScope st_inserted) := ⟨rfl, rfl, rfl, by decide +kernel, rfl, by decide +kernel, by decide +kernel⟩
theorem mt_inserted : mtSs N_inserted (defScope st_inserted) ss_inserted (defBody st_inserted) = true := by kernel_rfl
theorem wf_inserted (h : HD fbL fnL K mg) : WfTs ⟨P, w, K, mg, base, 0⟩ ss_inserted := ⟨⟨trivial, ⟨⟨k_lt, ⟨⟨(pa_number h), ⟨trivial, trivial⟩⟩, ⟨⟨(pa_number h), ⟨trivial, trivial⟩⟩, trivial⟩⟩⟩, trivial⟩, trivial⟩, ⟨⟨trivial, ⟨trivial, ⟨⟨k_sl true false, trivial, ⟨⟨k_len (h.free 0 rfl), ⟨trivial, trivial⟩⟩, trivial⟩, trivial⟩, trivial⟩⟩⟩, trivial⟩⟩
theorem ok_inserted (h : HD fbL fnL K mg) : ∃ fd, (∃ dvs kws, FunD K "inserted" "inserted" (defArgs st_inserted) (defBody st_inserted) (defScope st_inserted) dvs kws (He.ga K "inserted") fd ∧ dvs = da_inserted.dvs K ∧ kws = da_inserted.kws K) ∧ FnOk P w K mg base CX0 1 (He.ga K "inserted") fd P_inserted (spD K mg dn_inserted) := by
  obtain ⟨fd, F⟩ := h.def_ 14 (d := da_inserted) rfl
  exact ⟨fd, ⟨_, _, F, rfl, rfl⟩, def_ok F sc_inserted mt_inserted (wf_inserted h)⟩
theorem pr_inserted_2 (h : HD fbL fnL K mg) {k : Nat} (hk : 1 ≤ k) : PrimOk ⟨P, w, K, mg, base, k⟩ (.call "inserted") dn_inserted := by
  obtain ⟨fd, ⟨dvs, kws, F, e1, e2⟩, G⟩ := ok_inserted (P := P) (w := w) (base := base) h
  subst e1 e2
  have B : Binds K fd P_inserted [] := FunD.bindsN (ps := P_inserted) (kws := []) F fun _ _ _ _ _ _ us hl => match us, hl with | [_, _], _ => rfl
  exact k_fn G hk (h.glo 57 rfl) F.kp B .nil conv0 rfl
/-! Edition_init -/
theorem sc_Edition_init : FnScope N_Edition_init P_Edition_init (defScope st_Edition_init) := ⟨rfl, rfl, rfl, by decide +kernel, rfl, by decide +kernel, by decide +kernel⟩
theorem mt_Edition_init : mtSs N_Edition_init (defScope st_Edition_init) ss_Edition_init (defBody st_Edition_init) = true := by kernel_rfl
theorem wf_Edition_init (h : HD fbL fnL K mg) : WfTs ⟨P, w, K, mg, base, 1⟩ ss_Edition_init := ⟨trivial, ⟨⟨⟨(h.free 28 rfl), ⟨k_list (h.free 6 rfl), ⟨trivial, trivial⟩⟩⟩, ⟨⟨⟨⟨k_eq, ⟨trivial, ⟨(h.con 29 rfl), trivial⟩⟩⟩, ⟨⟨k_isi (h.free 7 rfl) (h.isi 8 rfl), ⟨trivial, ⟨(h.cls 22 rfl), trivial⟩⟩⟩, ⟨⟨(pr_clashes_2 h (by decide)), ⟨trivial, ⟨trivial, trivial⟩⟩⟩, trivial⟩⟩⟩, ⟨trivial, trivial⟩, trivial⟩, ⟨⟨(pr_inserted_2 h (by decide)), ⟨trivial, ⟨trivial, trivial⟩⟩⟩, trivial⟩⟩⟩, ⟨⟨h.setOk 32 33 34 rfl rfl rfl, ⟨k_tuple (h.free 31 rfl), ⟨trivial, trivial⟩⟩⟩, trivial⟩⟩⟩
theorem ok_Edition_init (h : HD fbL fnL K mg) : ∃ fd, (∃ dvs kws, FunD K "__init__" "Edition.__init__" (defArgs st_Edition_init) (defBody st_Edition_init) (defScope st_Edition_init) dvs kws (He.ma K (He.ga K "Edition") "__init__") fd ∧ dvs = da_Edition_init.dvs K ∧ kws = da_Edition_init.kws K) ∧ FnOk P w K mg base CX0 2 (He.ma K (He.ga K "Edition") "__init__") fd P_Edition_init (spD K mg dn_Edition_init) := by
  obtain ⟨fd, F⟩ := h.def_ 15 (d := da_Edition_init) rfl
  exact ⟨fd, ⟨_, _, F, rfl, rfl⟩, def_ok F sc_Edition_init mt_Edition_init (wf_Edition_init h)⟩
theorem mk_Edition_1 (h : HD fbL fnL K mg) {k : Nat} (hk : 3 ≤ k) : PrimOk ⟨P, w, K, mg, base, k⟩ (.call "Edition") (mkD "Edition" dn_Edition_init) := by
  obtain ⟨fd, ⟨dvs, kws, F, e1, e2⟩, G⟩ := ok_Edition_init (P := P) (w := w) (base := base) h
  subst e1 e2
  have B : Binds K fd P_Edition_init [] := FunD.bindsN (ps := P_Edition_init) (kws := []) F fun _ _ _ _ _ _ us hl => match us, hl with | [_, _], _ => rfl
  exact k_mk (h.mkr 58 rfl) G hk (h.glo 32 rfl) B .nil conv0 rfl
/-! law_edition -/
theorem sc_law_edition : FnScope N_law_edition P_law_edition (defScope st_law_edition) := ⟨rfl, rfl, rfl, by decide +kernel, rfl, by decide +kernel, by decide +kernel⟩
theorem mt_law_edition : mtSs N_law_edition (defScope st_law_edition) ss_law_edition (defBody st_law_edition) = true := by kernel_rfl
theorem wf_law_edition (h : HD fbL fnL K mg) : WfTs ⟨P, w, K, mg, base, 4⟩ ss_law_edition := ⟨⟨(mk_Edition_1 h (by decide)), ⟨⟨trivial, trivial, ⟨(mk_Field_4 h (by decide)), ⟨⟨k_ixA, ⟨trivial, ⟨trivial, trivial⟩⟩⟩, ⟨⟨k_ixA, ⟨trivial, ⟨trivial, trivial⟩⟩⟩, ⟨⟨k_ixA, ⟨trivial, ⟨trivial, trivial⟩⟩⟩, ⟨⟨k_ixA, ⟨trivial, ⟨trivial, trivial⟩⟩⟩, trivial⟩⟩⟩⟩⟩⟩, trivial⟩⟩, trivial⟩
theorem ok_law_edition (h : HD fbL fnL K mg) : ∃ fd, (∃ dvs kws, FunD K "_law_edition" "_law_edition" (defArgs st_law_edition) (defBody st_law_edition) (defScope st_law_edition) dvs kws (He.ga K "_law_edition") fd ∧ dvs = da_law_edition.dvs K ∧ kws = da_law_edition.kws K) ∧ FnOk P w K mg base CX0 5 (He.ga K "_law_edition") fd P_law_edition (spD K mg dn_law_edition) := by
  obtain ⟨fd, F⟩ := h.def_ 16 (d := da_law_edition) rfl
  exact ⟨fd, ⟨_, _, F, rfl, rfl⟩, def_ok F sc_law_edition mt_law_edition (wf_law_edition h)⟩
theorem pr_law_edition_1 (h : HD fbL fnL K mg) {k : Nat} (hk : 5 ≤ k) : PrimOk ⟨P, w, K, mg, base, k⟩ (.call "_law_edition") dn_law_edition := by
  obtain ⟨fd, ⟨dvs, kws, F, e1, e2⟩, G⟩ := ok_law_edition (P := P) (w := w) (base := base) h
  subst e1 e2
  have B : Binds K fd P_law_edition [] := FunD.bindsN (ps := P_law_edition) (kws := []) F fun _ _ _ _ _ _ us hl => match us, hl with | [_], _ => rfl
  exact k_fn G hk (h.glo 59 rfl) F.kp B .nil conv0 rfl
/-! by_number -/
theorem sc_by_number : FnScope N_by_number P_by_number (defScope st_by_number) := ⟨rfl, rfl, rfl, by decide +kernel, rfl, by decide +kernel, by decide +kernel⟩
theorem mt_by_number : mtSs N_by_number (defScope st_by_number) ss_by_number (defBody st_by_number) = true := by kernel_rfl
theorem wf_by_number (h : HD fbL fnL K mg) : WfTs ⟨P, w, K, mg, base, 0⟩ ss_by_number := ⟨⟨⟨(pa_fields h), ⟨trivial, trivial⟩⟩, trivial, ⟨(pa_number h), ⟨trivial, trivial⟩⟩, trivial⟩, trivial⟩
theorem ok_by_number (h : HD fbL fnL K mg) : ∃ fd, (∃ dvs kws, FunD K "by_number" "by_number" (defArgs st_by_number) (defBody st_by_number) (defScope st_by_number) dvs kws (He.ga K "by_number") fd ∧ dvs = da_by_number.dvs K ∧ kws = da_by_number.kws K) ∧ FnOk P w K mg base CX0 1 (He.ga K "by_number") fd P_by_number (spD K mg dn_by_number) := by
  obtain ⟨fd, F⟩ := h.def_ 17 (d := da_by_number) rfl
  exact ⟨fd, ⟨_, _, F, rfl, rfl⟩, def_ok F sc_by_number mt_by_number (wf_by_number h)⟩
theorem pr_by_number_1 (h : HD fbL fnL K mg) {k : Nat} (hk : 1 ≤ k) : PrimOk ⟨P, w, K, mg, base, k⟩ (.call "by_number") dn_by_number := by
  obtain ⟨fd, ⟨dvs, kws, F, e1, e2⟩, G⟩ := ok_by_number (P := P) (w := w) (base := base) h
  subst e1 e2
  have B : Binds K fd P_by_number [] := FunD.bindsN (ps := P_by_number) (kws := []) F fun _ _ _ _ _ _ us hl => match us, hl with | [_], _ => rfl
  exact k_fn G hk (h.glo 60 rfl) F.kp B .nil conv0 rfl
/-! moved -/
theorem sc_moved : FnScope N_moved P_moved (defScope st_moved) := ⟨rfl, rfl, rfl, by decide +kernel, rfl, by decide +kernel, by decide +kernel⟩
theorem mt_moved : mtSs N_moved (defScope st_moved) ss_moved (defBody st_moved) = true := by kernel_rfl
theorem wf_moved (h : HD fbL fnL K mg) : WfTs ⟨P, w, K, mg, base, 0⟩ ss_moved := ⟨⟨⟨(pa_fields h), ⟨trivial, trivial⟩⟩, trivial, ⟨(pa_name h), ⟨trivial, trivial⟩⟩, ⟨(pa_number h), ⟨trivial, trivial⟩⟩⟩, ⟨⟨⟨(pa_fields h), ⟨trivial, trivial⟩⟩, ⟨⟨k_ne, ⟨⟨k_get2, trivial, ⟨⟨(pa_name h), ⟨trivial, trivial⟩⟩, ⟨⟨(pa_number h), ⟨trivial, trivial⟩⟩, trivial⟩⟩⟩, ⟨⟨(pa_number h), ⟨trivial, trivial⟩⟩, trivial⟩⟩⟩, trivial⟩, ⟨(pa_number h), ⟨trivial, trivial⟩⟩⟩, trivial⟩⟩
theorem ok_moved (h : HD fbL fnL K mg) : ∃ fd, (∃ dvs kws, FunD K "moved" "moved" (defArgs st_moved) (defBody st_moved) (defScope st_moved) dvs kws (He.ga K "moved") fd ∧ dvs = da_moved.dvs K ∧ kws = da_moved.kws K) ∧ FnOk P w K mg base CX0 1 (He.ga K "moved") fd P_moved (spD K mg dn_moved) := by
  obtain ⟨fd, F⟩ := h.def_ 18 (d := da_moved) rfl
  exact ⟨fd, ⟨_, _, F, rfl, rfl⟩, def_ok F sc_moved mt_moved (wf_moved h)⟩
theorem pr_moved_2 (h : HD fbL fnL K mg) {k : Nat} (hk : 1 ≤ k) : PrimOk ⟨P, w, K, mg, base, k⟩ (.call "moved") dn_moved := by
  obtain ⟨fd, ⟨dvs, kws, F, e1, e2⟩, G⟩ := ok_moved (P := P) (w := w) (base := base) h
  subst e1 e2
  have B : Binds K fd P_moved [] := FunD.bindsN (ps := P_moved) (kws := []) F fun _ _ _ _ _ _ us hl => match us, hl with | [_, _], _ => rfl
  exact k_fn G hk (h.glo 61 rfl) F.kp B .nil conv0 rfl
/-! come -/
theorem sc_come : FnScope N_come P_come (defScope st_come) := ⟨rfl, rfl, rfl, by decide +kernel, rfl, by decide +kernel, by decide +kernel⟩
theorem mt_come : mtSs N_come (defScope st_come) ss_come (defBody st_come) = true := by kernel_rfl
theorem wf_come (h : HD fbL fnL K mg) : WfTs ⟨P, w, K, mg, base, 0⟩ ss_come := ⟨⟨⟨k_isN, ⟨⟨(pa_preset h), ⟨trivial, trivial⟩⟩, ⟨trivial, trivial⟩⟩⟩, trivial, trivial⟩, trivial⟩
theorem ok_come (h : HD fbL fnL K mg) : ∃ fd, (∃ dvs kws, FunD K "come" "come" (defArgs st_come) (defBody st_come) (defScope st_come) dvs kws (He.ga K "come") fd ∧ dvs = da_come.dvs K ∧ kws = da_come.kws K) ∧ FnOk P w K mg base CX0 1 (He.ga K "come") fd P_come (spD K mg dn_come) := by
  obtain ⟨fd, F⟩ := h.def_ 19 (d := da_come) rfl
  exact ⟨fd, ⟨_, _, F, rfl, rfl⟩, def_ok F sc_come mt_come (wf_come h)⟩
theorem pr_come_1 (h : HD fbL fnL K mg) {k : Nat} (hk : 1 ≤ k) : PrimOk ⟨P, w, K, mg, base, k⟩ (.call "come") dn_come := by
  obtain ⟨fd, ⟨dvs, kws, F, e1, e2⟩, G⟩ := ok_come (P := P) (w := w) (base := base) h
  subst e1 e2
  have B : Binds K fd P_come [] := FunD.bindsN (ps := P_come) (kws := []) F fun _ _ _ _ _ _ us hl => match us, hl with | [_], _ => rfl
  exact k_fn G hk (h.glo 62 rfl) F.kp B .nil conv0 rfl
/-! left -/
theorem sc_left : FnScope N_left P_left (defScope st_left) := ⟨rfl, rfl, rfl, by decide +kernel, rfl, by decide +kernel, by decide +kernel⟩
theorem mt_left : mtSs N_left (defScope st_left) ss_left (defBody st_left) = true := by kernel_rfl
theorem wf_left (h : HD fbL fnL K mg) : WfTs ⟨P, w, K, mg, base, 0⟩ ss_left := ⟨⟨⟨k_isN, ⟨⟨(pa_preset h), ⟨trivial, trivial⟩⟩, ⟨trivial, trivial⟩⟩⟩, trivial, trivial⟩, trivial⟩
theorem ok_left (h : HD fbL fnL K mg) : ∃ fd, (∃ dvs kws, FunD K "left" "left" (defArgs st_left) (defBody st_left) (defScope st_left) dvs kws (He.ga K "left") fd ∧ dvs = da_left.dvs K ∧ kws = da_left.kws K) ∧ FnOk P w K mg base CX0 1 (He.ga K "left") fd P_left (spD K mg dn_left) := by
  obtain ⟨fd, F⟩ := h.def_ 20 (d := da_left) rfl
  exact ⟨fd, ⟨_, _, F, rfl, rfl⟩, def_ok F sc_left mt_left (wf_left h)⟩
theorem pr_left_1 (h : HD fbL fnL K mg) {k : Nat} (hk : 1 ≤ k) : PrimOk ⟨P, w, K, mg, base, k⟩ (.call "left") dn_left := by
  obtain ⟨fd, ⟨dvs, kws, F, e1, e2⟩, G⟩ := ok_left (P := P) (w := w) (base := base) h
  subst e1 e2
  have B : Binds K fd P_left [] := FunD.bindsN (ps := P_left) (kws := []) F fun _ _ _ _ _ _ us hl => match us, hl with | [_], _ => rfl
  exact k_fn G hk (h.glo 63 rfl) F.kp B .nil conv0 rfl
/-! kind_changes -/
theorem sc_kind_changes : FnScope N_kind_changes P_kind_changes (defScope st_kind_changes) := ⟨rfl, rfl, rfl, by decide +kernel, rfl, by decide +kernel, by decide +kernel⟩
theorem mt_kind_changes : mtSs N_kind_changes (defScope st_kind_changes) ss_kind_changes (defBody st_kind_changes) = true := by kernel_rfl
theorem wf_kind_changes (h : HD fbL fnL K mg) : WfTs ⟨P, w, K, mg, base, 0⟩ ss_kind_changes := ⟨⟨⟨k_eq, ⟨trivial, ⟨trivial, trivial⟩⟩⟩, ⟨trivial, trivial⟩, trivial⟩, ⟨⟨⟨⟨k_eq, ⟨trivial, ⟨⟨pv_Kind_TEXT h, ⟨(h.cls 14 rfl), trivial⟩⟩, trivial⟩⟩⟩, ⟨⟨k_eq, ⟨trivial, ⟨⟨pv_Kind_TEXT h, ⟨(h.cls 14 rfl), trivial⟩⟩, trivial⟩⟩⟩, trivial⟩⟩, ⟨⟨trivial, trivial⟩, trivial⟩, trivial⟩, ⟨⟨⟨⟨k_eq, ⟨trivial, ⟨⟨pv_Kind_SIGNED h, ⟨(h.cls 14 rfl), trivial⟩⟩, trivial⟩⟩⟩, ⟨⟨k_eq, ⟨trivial, ⟨⟨pv_Kind_SIGNED h, ⟨(h.cls 14 rfl), trivial⟩⟩, trivial⟩⟩⟩, trivial⟩⟩, ⟨⟨trivial, trivial⟩, trivial⟩, trivial⟩, ⟨⟨⟨k_eq, ⟨trivial, ⟨⟨pv_Kind_SMALL h, ⟨(h.cls 14 rfl), trivial⟩⟩, trivial⟩⟩⟩, ⟨trivial, trivial⟩, ⟨trivial, trivial⟩⟩, trivial⟩⟩⟩⟩
theorem ok_kind_changes (h : HD fbL fnL K mg) : ∃ fd, (∃ dvs kws, FunD K "kind_changes" "kind_changes" (defArgs st_kind_changes) (defBody st_kind_changes) (defScope st_kind_changes) dvs kws (He.ga K "kind_changes") fd ∧ dvs = da_kind_changes.dvs K ∧ kws = da_kind_changes.kws K) ∧ FnOk P w K mg base CX0 1 (He.ga K "kind_changes") fd P_kind_changes (spD K mg dn_kind_changes) := by
  obtain ⟨fd, F⟩ := h.def_ 21 (d := da_kind_changes) rfl
  exact ⟨fd, ⟨_, _, F, rfl, rfl⟩, def_ok F sc_kind_changes mt_kind_changes (wf_kind_changes h)⟩
theorem pr_kind_changes_2 (h : HD fbL fnL K mg) {k : Nat} (hk : 1 ≤ k) : PrimOk ⟨P, w, K, mg, base, k⟩ (.call "kind_changes") dn_kind_changes := by
  obtain ⟨fd, ⟨dvs, kws, F, e1, e2⟩, G⟩ := ok_kind_changes (P := P) (w := w) (base := base) h
  subst e1 e2
  have B : Binds K fd P_kind_changes [] := FunD.bindsN (ps := P_kind_changes) (kws := []) F fun _ _ _ _ _ _ us hl => match us, hl with | [_, _], _ => rfl
  exact k_fn G hk (h.glo 64 rfl) F.kp B .nil conv0 rfl
/-! kept_changes -/
theorem sc_kept_changes : FnScope N_kept_changes P_kept_changes (defScope st_kept_changes) := ⟨rfl, rfl, rfl, by decide +kernel, rfl, by decide +kernel, by decide +kernel⟩
theorem mt_kept_changes : mtSs N_kept_changes (defScope st_kept_changes) ss_kept_changes (defBody st_kept_changes) = true := by kernel_rfl
theorem wf_kept_changes (h : HD fbL fnL K mg) : WfTs ⟨P, w, K, mg, base, 1⟩ ss_kept_changes := ⟨trivial, ⟨⟨⟨⟨k_notN, ⟨⟨(pa_preset h), ⟨trivial, trivial⟩⟩, ⟨trivial, trivial⟩⟩⟩, ⟨⟨k_isN, ⟨⟨(pa_preset h), ⟨trivial, trivial⟩⟩, ⟨trivial, trivial⟩⟩⟩, trivial⟩⟩, ⟨⟨k_append, trivial, ⟨trivial, trivial⟩⟩, trivial⟩, trivial⟩, ⟨⟨⟨⟨k_isN, ⟨⟨(pa_preset h), ⟨trivial, trivial⟩⟩, ⟨trivial, trivial⟩⟩⟩, ⟨⟨k_notN, ⟨⟨(pa_preset h), ⟨trivial, trivial⟩⟩, ⟨trivial, trivial⟩⟩⟩, trivial⟩⟩, ⟨⟨k_append, trivial, ⟨trivial, trivial⟩⟩, trivial⟩, trivial⟩, ⟨⟨⟨⟨k_notN, ⟨⟨(pa_preset h), ⟨trivial, trivial⟩⟩, ⟨trivial, trivial⟩⟩⟩, ⟨⟨k_notN, ⟨⟨(pa_preset h), ⟨trivial, trivial⟩⟩, ⟨trivial, trivial⟩⟩⟩, ⟨⟨k_ne, ⟨⟨(pa_preset h), ⟨trivial, trivial⟩⟩, ⟨⟨(pa_preset h), ⟨trivial, trivial⟩⟩, trivial⟩⟩⟩, trivial⟩⟩⟩, ⟨⟨k_append, trivial, ⟨trivial, trivial⟩⟩, trivial⟩, trivial⟩, ⟨⟨k_add, ⟨trivial, ⟨⟨(pr_kind_changes_2 h (by decide)), ⟨⟨(pa_kind h), ⟨trivial, trivial⟩⟩, ⟨⟨(pa_kind h), ⟨trivial, trivial⟩⟩, trivial⟩⟩⟩, trivial⟩⟩⟩, trivial⟩⟩⟩⟩⟩
theorem ok_kept_changes (h : HD fbL fnL K mg) : ∃ fd, (∃ dvs kws, FunD K "kept_changes" "kept_changes" (defArgs st_kept_changes) (defBody st_kept_changes) (defScope st_kept_changes) dvs kws (He.ga K "kept_changes") fd ∧ dvs = da_kept_changes.dvs K ∧ kws = da_kept_changes.kws K) ∧ FnOk P w K mg base CX0 2 (He.ga K "kept_changes") fd P_kept_changes (spD K mg dn_kept_changes) := by
  obtain ⟨fd, F⟩ := h.def_ 22 (d := da_kept_changes) rfl
  exact ⟨fd, ⟨_, _, F, rfl, rfl⟩, def_ok F sc_kept_changes mt_kept_changes (wf_kept_changes h)⟩
theorem pr_kept_changes_2 (h : HD fbL fnL K mg) {k : Nat} (hk : 2 ≤ k) : PrimOk ⟨P, w, K, mg, base, k⟩ (.call "kept_changes") dn_kept_changes := by
  obtain ⟨fd, ⟨dvs, kws, F, e1, e2⟩, G⟩ := ok_kept_changes (P := P) (w := w) (base := base) h
  subst e1 e2
  have B : Binds K fd P_kept_changes [] := FunD.bindsN (ps := P_kept_changes) (kws := []) F fun _ _ _ _ _ _ us hl => match us, hl with | [_, _], _ => rfl
  exact k_fn G hk (h.glo 65 rfl) F.kp B .nil conv0 rfl
/-! field_changes -/
theorem sc_field_changes : FnScope N_field_changes P_field_changes (defScope st_field_changes) := ⟨rfl, rfl, rfl, by decide +kernel, rfl, by decide +kernel, by decide +kernel⟩
theorem mt_field_changes : mtSs N_field_changes (defScope st_field_changes) ss_field_changes (defBody st_field_changes) = true := by kernel_rfl
theorem wf_field_changes (h : HD fbL fnL K mg) : WfTs ⟨P, w, K, mg, base, 2⟩ ss_field_changes := ⟨⟨⟨k_isN, ⟨trivial, ⟨trivial, trivial⟩⟩⟩, ⟨⟨⟨k_isN, ⟨trivial, ⟨trivial, trivial⟩⟩⟩, trivial, ⟨⟨(pr_come_1 h (by decide)), ⟨trivial, trivial⟩⟩, trivial⟩⟩, trivial⟩, trivial⟩, ⟨⟨⟨k_isN, ⟨trivial, ⟨trivial, trivial⟩⟩⟩, ⟨⟨⟨(pr_left_1 h (by decide)), ⟨trivial, trivial⟩⟩, trivial⟩, trivial⟩, trivial⟩, ⟨⟨⟨k_eq, ⟨⟨(pa_name h), ⟨trivial, trivial⟩⟩, ⟨⟨(pa_name h), ⟨trivial, trivial⟩⟩, trivial⟩⟩⟩, ⟨⟨(pr_kept_changes_2 h (by decide)), ⟨trivial, ⟨trivial, trivial⟩⟩⟩, trivial⟩, trivial⟩, ⟨⟨⟨(pr_left_1 h (by decide)), ⟨trivial, trivial⟩⟩, ⟨⟨(pr_come_1 h (by decide)), ⟨trivial, trivial⟩⟩, ⟨trivial, trivial⟩⟩⟩, trivial⟩⟩⟩⟩
theorem ok_field_changes (h : HD fbL fnL K mg) : ∃ fd, (∃ dvs kws, FunD K "field_changes" "field_changes" (defArgs st_field_changes) (defBody st_field_changes) (defScope st_field_changes) dvs kws (He.ga K "field_changes") fd ∧ dvs = da_field_changes.dvs K ∧ kws = da_field_changes.kws K) ∧ FnOk P w K mg base CX0 3 (He.ga K "field_changes") fd P_field_changes (spD K mg dn_field_changes) := by
  obtain ⟨fd, F⟩ := h.def_ 23 (d := da_field_changes) rfl
  exact ⟨fd, ⟨_, _, F, rfl, rfl⟩, def_ok F sc_field_changes mt_field_changes (wf_field_changes h)⟩
theorem pr_field_changes_2 (h : HD fbL fnL K mg) {k : Nat} (hk : 3 ≤ k) : PrimOk ⟨P, w, K, mg, base, k⟩ (.call "field_changes") dn_field_changes := by
  obtain ⟨fd, ⟨dvs, kws, F, e1, e2⟩, G⟩ := ok_field_changes (P := P) (w := w) (base := base) h
  subst e1 e2
  have B : Binds K fd P_field_changes [] := FunD.bindsN (ps := P_field_changes) (kws := []) F fun _ _ _ _ _ _ us hl => match us, hl with | [_, _], _ => rfl
  exact k_fn G hk (h.glo 66 rfl) F.kp B .nil conv0 rfl
/-! changes -/
theorem sc_changes : FnScope N_changes P_changes (defScope st_changes) := ⟨rfl, rfl, rfl, by decide +kernel, rfl, by decide +kernel, by decide +kernel⟩
theorem mt_changes : mtSs N_changes (defScope st_changes) ss_changes (defBody st_changes) = true := by kernel_rfl
theorem wf_changes (h : HD fbL fnL K mg) : WfTs ⟨P, w, K, mg, base, 3⟩ ss_changes := ⟨⟨(pr_by_number_1 h (by decide)), ⟨trivial, trivial⟩⟩, ⟨⟨(pr_by_number_1 h (by decide)), ⟨trivial, trivial⟩⟩, ⟨⟨⟨(pr_moved_2 h (by decide)), ⟨trivial, ⟨trivial, trivial⟩⟩⟩, trivial, ⟨trivial, ⟨trivial, trivial⟩⟩⟩, ⟨⟨⟨k_sorted (h.free 35 rfl), ⟨⟨⟨trivial, trivial⟩, trivial, ⟨k_int (h.free 4 rfl), ⟨trivial, trivial⟩⟩⟩, trivial⟩⟩, ⟨⟨⟨(pr_field_changes_2 h (by decide)), ⟨⟨k_get1, trivial, ⟨trivial, trivial⟩⟩, ⟨⟨k_get1, trivial, ⟨trivial, trivial⟩⟩, trivial⟩⟩⟩, ⟨⟨k_append, trivial, ⟨⟨trivial, ⟨trivial, trivial⟩⟩, trivial⟩⟩, trivial⟩⟩, trivial⟩⟩, ⟨⟨(h.con 37 rfl), trivial, trivial, ⟨⟨k_eq, ⟨⟨k_ixA, ⟨trivial, ⟨trivial, trivial⟩⟩⟩, ⟨trivial, trivial⟩⟩⟩, trivial⟩, trivial⟩, trivial⟩⟩⟩⟩⟩
theorem ok_changes (h : HD fbL fnL K mg) : ∃ fd, (∃ dvs kws, FunD K "changes" "changes" (defArgs st_changes) (defBody st_changes) (defScope st_changes) dvs kws (He.ga K "changes") fd ∧ dvs = da_changes.dvs K ∧ kws = da_changes.kws K) ∧ FnOk P w K mg base CX0 4 (He.ga K "changes") fd P_changes (spD K mg dn_changes) := by
  obtain ⟨fd, F⟩ := h.def_ 24 (d := da_changes) rfl
  exact ⟨fd, ⟨_, _, F, rfl, rfl⟩, def_ok F sc_changes mt_changes (wf_changes h)⟩
theorem pr_changes_2 (h : HD fbL fnL K mg) {k : Nat} (hk : 4 ≤ k) : PrimOk ⟨P, w, K, mg, base, k⟩ (.call "changes") dn_changes := by
  obtain ⟨fd, ⟨dvs, kws, F, e1, e2⟩, G⟩ := ok_changes (P := P) (w := w) (base := base) h
  subst e1 e2
  have B : Binds K fd P_changes [] := FunD.bindsN (ps := P_changes) (kws := []) F fun _ _ _ _ _ _ us hl => match us, hl with | [_, _], _ => rfl
  exact k_fn G hk (h.glo 67 rfl) F.kp B .nil conv0 rfl
/-! reads -/
theorem sc_reads : FnScope N_reads P_reads (defScope st_reads) := ⟨rfl, rfl, rfl, by decide +kernel, rfl, by decide +kernel, by decide +kernel⟩
theorem mt_reads : mtSs N_reads (defScope st_reads) ss_reads (defBody st_reads) = true := by kernel_rfl
theorem wf_reads (h : HD fbL fnL K mg) : WfTs ⟨P, w, K, mg, base, 4⟩ ss_reads := ⟨⟨k_any (h.free 30 rfl), ⟨⟨⟨(pr_changes_2 h (by decide)), ⟨trivial, ⟨trivial, trivial⟩⟩⟩, trivial, ⟨k_in, ⟨trivial, ⟨(h.con 38 rfl), trivial⟩⟩⟩⟩, trivial⟩⟩, trivial⟩
theorem ok_reads (h : HD fbL fnL K mg) : ∃ fd, (∃ dvs kws, FunD K "reads" "reads" (defArgs st_reads) (defBody st_reads) (defScope st_reads) dvs kws (He.ga K "reads") fd ∧ dvs = da_reads.dvs K ∧ kws = da_reads.kws K) ∧ FnOk P w K mg base CX0 5 (He.ga K "reads") fd P_reads (spD K mg dn_reads) := by
  obtain ⟨fd, F⟩ := h.def_ 25 (d := da_reads) rfl
  exact ⟨fd, ⟨_, _, F, rfl, rfl⟩, def_ok F sc_reads mt_reads (wf_reads h)⟩
theorem pr_reads_2 (h : HD fbL fnL K mg) {k : Nat} (hk : 5 ≤ k) : PrimOk ⟨P, w, K, mg, base, k⟩ (.call "reads") dn_reads := by
  obtain ⟨fd, ⟨dvs, kws, F, e1, e2⟩, G⟩ := ok_reads (P := P) (w := w) (base := base) h
  subst e1 e2
  have B : Binds K fd P_reads [] := FunD.bindsN (ps := P_reads) (kws := []) F fun _ _ _ _ _ _ us hl => match us, hl with | [_, _], _ => rfl
  exact k_fn G hk (h.glo 68 rfl) F.kp B .nil conv0 rfl
/-! good_pairs -/
theorem sc_good_pairs : FnScope N_good_pairs P_good_pairs (defScope st_good_pairs) := ⟨rfl, rfl, rfl, by decide +kernel, rfl, by decide +kernel, by decide +kernel⟩
theorem mt_good_pairs : mtSs N_good_pairs (defScope st_good_pairs) ss_good_pairs (defBody st_good_pairs) = true := by kernel_rfl
theorem wf_good_pairs (h : HD fbL fnL K mg) : WfTs ⟨P, w, K, mg, base, 5⟩ ss_good_pairs := ⟨⟨trivial, trivial, ⟨trivial, trivial, ⟨(pr_reads_2 h (by decide)), ⟨trivial, ⟨trivial, trivial⟩⟩⟩⟩⟩, ⟨⟨trivial, ⟨⟨⟨(h.free 3 rfl), trivial, ⟨k_len (h.free 0 rfl), ⟨trivial, trivial⟩⟩⟩, ⟨⟨trivial, ⟨⟨(h.free 3 rfl), ⟨k_len (h.free 0 rfl), ⟨trivial, trivial⟩⟩⟩, trivial, ⟨⟨k_ixA, ⟨⟨k_ixA, ⟨trivial, ⟨trivial, trivial⟩⟩⟩, ⟨trivial, trivial⟩⟩⟩, ⟨⟨k_ixA, ⟨⟨k_ixA, ⟨trivial, ⟨⟨k_sub, ⟨trivial, ⟨trivial, trivial⟩⟩⟩, trivial⟩⟩⟩, ⟨trivial, trivial⟩⟩⟩, trivial⟩⟩⟩⟩, trivial⟩⟩, trivial⟩, trivial⟩, ⟨trivial, trivial⟩⟩⟩
theorem ok_good_pairs (h : HD fbL fnL K mg) : ∃ fd, (∃ dvs kws, FunD K "good_pairs" "good_pairs" (defArgs st_good_pairs) (defBody st_good_pairs) (defScope st_good_pairs) dvs kws (He.ga K "good_pairs") fd ∧ dvs = da_good_pairs.dvs K ∧ kws = da_good_pairs.kws K) ∧ FnOk P w K mg base CX0 6 (He.ga K "good_pairs") fd P_good_pairs (spD K mg dn_good_pairs) := by
  obtain ⟨fd, F⟩ := h.def_ 26 (d := da_good_pairs) rfl
  exact ⟨fd, ⟨_, _, F, rfl, rfl⟩, def_ok F sc_good_pairs mt_good_pairs (wf_good_pairs h)⟩
theorem pr_good_pairs_2 (h : HD fbL fnL K mg) {k : Nat} (hk : 6 ≤ k) : PrimOk ⟨P, w, K, mg, base, k⟩ (.call "good_pairs") dn_good_pairs := by
  obtain ⟨fd, ⟨dvs, kws, F, e1, e2⟩, G⟩ := ok_good_pairs (P := P) (w := w) (base := base) h
  subst e1 e2
  have B : Binds K fd P_good_pairs [] := FunD.bindsN (ps := P_good_pairs) (kws := []) F fun _ _ _ _ _ _ us hl => match us, hl with | [_, _], _ => rfl
  exact k_fn G hk (h.glo 69 rfl) F.kp B .nil conv0 rfl
/-! finishing_pairs -/
theorem hand_finishing_pairs (h : HD fbL fnL K mg) {dvs : List V} {kws : List (Str × V)} {f : Addr} {fd : FuncData} (F : FunD K "finishing_pairs" "finishing_pairs" (defArgs st_finishing_pairs) (defBody st_finishing_pairs) (defScope st_finishing_pairs) dvs kws f fd) :
    FnOk P w K mg base CX0 1 f fd P_finishing_pairs (spD K mg dn_finishing_pairs) := by
  have S : FnScope N_finishing_pairs P_finishing_pairs (defScope st_finishing_pairs) := ⟨rfl, rfl, rfl, by decide +kernel, rfl, by decide +kernel, by decide +kernel⟩
  have ml : mg "len" = none := h.free 0 rfl
  have mr : mg "range" = none := h.free 3 rfl
  have mv : mg "reversed" = none := h.free 70 rfl
  refine F.ok S (fun vs H Q E q => by obtain ⟨v, n, T, rfl, _⟩ := spD_grid q; rfl) fun cdv A outer s H vs Q E hr q => ?_
  obtain ⟨v, n, T, rfl, ht, h0, h1, qq⟩ := spD_grid q
  refine ⟨_, PSs.nox (pss_cons (ps_set (i := 1) S.nd rfl (.inr rfl) (pe_callB call_len_seq (by rfl) ml PySem.boot_len (pa_cons (pv 0) pa_nil)))
    (pss_cons (ps_setLc (i := 2) (own := [("_", 3)]) (g := gName 3) (tt := tYes) rfl S.nd rfl rfl (sw_true rfl rfl rfl (by decide +kernel)) (pi_range1 (by rfl) mr (pa_cons (pv 1) pa_nil)) (blkOk_by (N := N_finishing_pairs) (sc := defScope st_finishing_pairs) (by decide +kernel)) (fun _ _ _ _ _ => pg_name (i := 3) S.nd rfl (.inl rfl)) (fun _ _ _ _ _ => pts_nil)
        (fun _ _ _ _ _ => pe_lc (own := [("_", 3)]) (g := gName 3) (tt := tYes) rfl S.nd (pi_range1 (by rfl) mr (pa_cons (pv 1) pa_nil)) (blkOk_by (N := N_finishing_pairs) (by kernel_rfl)) (fun _ _ _ _ _ => pg_name (i := 3) S.nd rfl (.inl rfl)) (fun _ _ _ _ _ => pts_nil) (fun _ _ _ _ _ => pe_bl)) (fun _ => rfl))
    (pss_cons (ps_for PassesOwn.never rfl (pi_revR (by rfl) mv (prg_1 (by rfl) mr (pv 1))) (pg_name (i := 4) S.nd rfl (.inl rfl))
       (pss_one (ps_for PassesOwn.never rfl (pi_revR (by rfl) mv (prg_1 (by rfl) mr (pv 1))) (pg_name (i := 5) S.nd rfl (.inl rfl))
         (pss_cons (ps_set (i := 6) S.nd rfl (.inl rfl) (pe_and (pe_cmpR op_eq (pv 4) (pe_op op_sub (pv 1) pe_int) (nomark _)) (pe_one (pe_cmpR op_eq (pv 5) (pe_op op_sub (pv 1) pe_int) (nomark _)))))
         (pss_cons (ps_if (PW.pt (pw_or (PW.pt (pw_and (pt_cmpR op_lt (pe_op op_add (pv 5) pe_int) (pv 1) (nomark _)) (pw_and1 (pt_val (pe_ix ix_list (pe_ix ix_list (pv 2) (pv 4) (fun _ _ => rfl)) (pe_op op_add (pv 5) pe_int) (fun _ _ => rfl))))))
              (pw_or1 (PW.pt (pw_and (pt_cmpR op_lt (pe_op op_add (pv 4) pe_int) (pv 1) (nomark _)) (pw_and1 (pt_val (pe_ix ix_list (pe_ix ix_list (pv 2) (pe_op op_add (pv 4) pe_int) (fun _ _ => rfl)) (pv 5) (fun _ _ => rfl)))))))))
            (pss_one (ps_set (i := 6) S.nd rfl (.inl rfl) pe_bl)) pss_nil)
         (pss_one (ps_asg (pe_and (pe_ix ix_list (pe_ix ix_list (pv 0) (pv 4) (fun _ _ => rfl)) (pv 5) (fun _ _ => rfl)) (pe_one (pv 6))) (pg_sub (pe_ix ix_list (pv 2) (pv 4) (fun _ _ => rfl)) (pv 5) set_list))))))))
    (pss_one (ps_ret (pv 2)))))), ?_⟩
  obtain ⟨p, vs, rfl, hp, hl, hrow⟩ := ht
  have ht : TabAt H (.ref p) n T := ⟨p, vs, rfl, hp, hl, hrow⟩
  have hsz : (1000 : Nat) < sizeLine := by decide
  -- many
  refine ⟨.ref p, rfl, p, vs, rfl, .inl (SqL.of hp), ?_⟩
  rw [hl]
  -- found
  refine ⟨.int n, rfl, n, rfl, by omega, by omega, fun a na => ?_⟩
  refine lc_range (n := n) (fun i H2 => ∃ bs, bs.length = i ∧ GrUp H H2 a bs n) ⟨[], rfl, GrUp.start na⟩ (fun i H2 hi g => ?_) fun H2 g => ?_
  · obtain ⟨bs, rfl, g⟩ := g
    refine ⟨rfl, ?_⟩
    show ∃ v, _
    refine ⟨.int n, rfl, n, rfl, by omega, by omega, fun b nb => ?_⟩
    refine lc_range (n := n) (fun j H3 => Same H2 H3 ∧ H3 b = some (.lst (rowV j fun _ => false))) ⟨fun c o e => by rw [upd_ne (fun z => by subst z; rw [nb] at e; cases e)]; exact e, upd_same⟩ (fun j H3 hj g3 => ?_) fun H3 g3 => ?_
    · refine ⟨rfl, rowV j fun _ => false, g3.2, by rw [rowV_len]; omega, fun c o e => ?_, ?_⟩
      · rw [upd_ne (fun z => by subst z; rw [nb] at e; cases e)]; exact g3.1 _ _ e
      · rw [upd_same]; simp [rowV, List.range_succ]
    · obtain ⟨m1, m2⟩ := g.more nb g3.1 g3.2
      refine ⟨bs.map V.ref, m1, by rw [List.length_map]; omega, bs ++ [b], by simp, m2⟩
  obtain ⟨bs, hbs, g⟩ := g
  have g := (g.all hbs).congr (G' := GkF T n (0 * n)) fun w r _ _ => by rw [Nat.zero_mul, GkF_zero]
  clear hbs
  -- the walk
  refine ⟨.int n, rfl, n, rfl, by omega, by omega, by omega, by omega, ?_⟩
  have en : (((n : Int) - 0).toNat) = n := by omega
  rw [en]
  refine for_rangeC (n := n) (fun i σ H3 => ∃ x y z u, σ = [some (.ref p), some (.int n), some (.ref a), x, y, z, u] ∧ GrAt H H3 a bs n (GkF T n (i * n))) ⟨_, _, _, _, rfl, g⟩ (fun i σ H3 hi g => ?_) fun σ H3 g => ?_
  · obtain ⟨x, y, z, u, rfl, g⟩ := g
    refine ⟨.int n, rfl, n, rfl, by omega, by omega, by omega, by omega, ?_⟩
    rw [en]
    have ew : (0 : Int) + (n : Int) - 1 + (i : Nat) * (-1) = ((n - 1 - i : Nat) : Int) := by omega
    rw [ew]
    refine for_rangeC (n := n) (fun j σ H3 => ∃ x z u, σ = [some (.ref p), some (.int n), some (.ref a), x, some (.int ((n - 1 - i : Nat) : Int)), z, u] ∧ GrAt H H3 a bs n (GkF T n (i * n + j))) ⟨_, _, _, rfl, g⟩ (fun j σ H4 hj g => ?_) fun σ H4 g => ?_
    · obtain ⟨x, z, u, rfl, g⟩ := g
      have er : (0 : Int) + (n : Int) - 1 + (j : Nat) * (-1) = ((n - 1 - j : Nat) : Int) := by omega
      rw [er]
      have hw : n - 1 - i < n := by omega
      have hrr : n - 1 - j < n := by omega
      generalize hW : n - 1 - i = W at *
      generalize hR : n - 1 - j = R at *
      obtain ⟨pv, vsv, ev, hpv, hlv, hrowv⟩ := ht.mono g.same
      cases ev
      obtain ⟨tb, t1, t2⟩ := hrowv W hw
      obtain ⟨gb, g1, g1', g2⟩ := g.row hw
      -- goes_on
      have E1 : ((W : Nat) : Int) + 1 = ((W + 1 : Nat) : Int) := by omega
      have E2 : ((R : Nat) : Int) + 1 = ((R + 1 : Nat) : Int) := by omega
      have gR : ∀ k : Bool, R + 1 < n → k = GkF T n (i * n + j) W (R + 1) → (rowV n (GkF T n (i * n + j) W))[R + 1]? = some (.bl k) := fun k hk e => by rw [rowV_at hk, e]
      refine Ev.and (k := decide (W = n - 1)) (l := decide (R = n - 1)) (Ev.eqI (Ev.var rfl) (Ev.op (Ev.var rfl) Ev.c) (by rw [decide_eq_decide]; omega)) (fun _ => Ev.eqI (Ev.var rfl) (Ev.op (Ev.var rfl) Ev.c) (by rw [decide_eq_decide]; omega)) _ ?_
      -- the if
      generalize hgo : (decide (W = n - 1) && decide (R = n - 1)) = go
      dsimp only [gName, tSeq, tIfS]
      refine EvT.or (k := decide (R + 1 < n) && finF T n W (R + 1)) (l := decide (W + 1 < n) && finF T n (W + 1) R)
        ?_ (fun _ => ?_) _ ?_
      · refine EvT.and ?_ fun hk => ?_
        · exact EvT.tst (Ev.lt (i := R + 1) (j := n) (by rw [← E2]; exact Ev.op (Ev.var rfl) Ev.c) (Ev.var rfl))
        have hk := of_decide_eq_true hk
        exact EvT.val (Ev.ix (Ev.ix (Ev.var rfl) (Ev.var rfl) g.at_ g1) (by rw [← E2]; exact Ev.op (Ev.var rfl) Ev.c) g2 (by rw [rowV_at hk, ← hW, ← hR, GkF_right hi hj (by omega)]))
      · refine EvT.and ?_ fun hk => ?_
        · exact EvT.tst (Ev.lt (i := W + 1) (j := n) (by rw [← E1]; exact Ev.op (Ev.var rfl) Ev.c) (Ev.var rfl))
        have hk := of_decide_eq_true hk
        obtain ⟨gc, c1, c1', c2⟩ := g.row hk
        exact EvT.val (Ev.ix (Ev.ix (Ev.var rfl) (by rw [← E1]; exact Ev.op (Ev.var rfl) Ev.c) g.at_ c1) (Ev.var rfl) c2 (by rw [rowV_at hrr, ← hW, ← hR, GkF_down hi hj (by omega)]))
      have cell : ∀ k : Bool, k = (decide (W = n - 1) && decide (R = n - 1) || ((decide (R + 1 < n) && finF T n W (R + 1)) || (decide (W + 1 < n) && finF T n (W + 1) R))) → GrAt H (upd H4 gb (.lst ((rowV n (GkF T n (i * n + j) W)).set R (.bl (T W R && k))))) a bs n (GkF T n (i * n + (j + 1))) := fun k hk => by
        refine g.set g1' hrr fun w' r' hw' hr' => ?_
        rw [← Nat.add_assoc, GkF_step hi hj hw' hr', hW, hR, finF_cell hw hrr, Bool.decide_and, Bool.or_assoc, ← hk]
      rw [hgo] at cell
      generalize (decide (R + 1 < n) && finF T n W (R + 1) || (decide (W + 1 < n) && finF T n (W + 1) R)) = bb at *
      cases bb
      · refine Ev.and (Ev.ix (Ev.ix (Ev.var rfl) (Ev.var rfl) hpv t1) (Ev.var rfl) t2 (rowV_at hrr)) (fun _ => Ev.var rfl) _ ?_
        refine Ev.ix (Ev.var rfl) (Ev.var rfl) g.at_ g1 _ ?_
        exact Ev.var rfl _ ⟨gb, _, _, R, rfl, rfl, g2, ixN_nat (by rw [rowV_len]; exact hrr), _, _, _, rfl, cell _ (by simp)⟩
      · refine Ev.and (Ev.ix (Ev.ix (Ev.var rfl) (Ev.var rfl) hpv t1) (Ev.var rfl) t2 (rowV_at hrr)) (fun _ => Ev.var rfl) _ ?_
        refine Ev.ix (Ev.var rfl) (Ev.var rfl) g.at_ g1 _ ?_
        exact Ev.var rfl _ ⟨gb, _, _, R, rfl, rfl, g2, ixN_nat (by rw [rowV_len]; exact hrr), _, _, _, rfl, cell _ (by simp)⟩
    · obtain ⟨x, z, u, rfl, g⟩ := g
      exact ⟨x, _, z, u, rfl, by rw [Nat.add_mul, Nat.one_mul]; exact g⟩
  · obtain ⟨x, y, z, u, rfl, g⟩ := g
    exact ⟨.ref a, rfl, qq H3 a bs (g.congr fun w r hw hr => GkF_all hw hr)⟩
theorem ok_finishing_pairs (h : HD fbL fnL K mg) : ∃ fd, (∃ dvs kws, FunD K "finishing_pairs" "finishing_pairs" (defArgs st_finishing_pairs) (defBody st_finishing_pairs) (defScope st_finishing_pairs) dvs kws (He.ga K "finishing_pairs") fd ∧ dvs = da_finishing_pairs.dvs K ∧ kws = da_finishing_pairs.kws K) ∧ FnOk P w K mg base CX0 1 (He.ga K "finishing_pairs") fd P_finishing_pairs (spD K mg dn_finishing_pairs) := by
  obtain ⟨fd, F⟩ := h.def_ 27 (d := da_finishing_pairs) rfl
  exact ⟨fd, ⟨_, _, F, rfl, rfl⟩, hand_finishing_pairs h F⟩
theorem pr_finishing_pairs_1 (h : HD fbL fnL K mg) {k : Nat} (hk : 1 ≤ k) : PrimOk ⟨P, w, K, mg, base, k⟩ (.call "finishing_pairs") dn_finishing_pairs := by
  obtain ⟨fd, ⟨dvs, kws, F, e1, e2⟩, G⟩ := ok_finishing_pairs (P := P) (w := w) (base := base) h
  subst e1 e2
  have B : Binds K fd P_finishing_pairs [] := FunD.bindsN (ps := P_finishing_pairs) (kws := []) F fun _ _ _ _ _ _ us hl => match us, hl with | [_], _ => rfl
  exact k_fn G hk (h.glo 71 rfl) F.kp B .nil conv0 rfl
/-! first_steps -/
theorem sc_first_steps : FnScope N_first_steps P_first_steps (defScope st_first_steps) := ⟨rfl, rfl, rfl, by decide +kernel, rfl, by decide +kernel, by decide +kernel⟩
theorem mt_first_steps : mtSs N_first_steps (defScope st_first_steps) ss_first_steps (defBody st_first_steps) = true := by kernel_rfl
theorem wf_first_steps (h : HD fbL fnL K mg) : WfTs ⟨P, w, K, mg, base, 0⟩ ss_first_steps := ⟨⟨k_len (h.free 0 rfl), ⟨trivial, trivial⟩⟩, ⟨trivial, ⟨trivial, ⟨trivial, ⟨⟨⟨k_lt, ⟨⟨k_add, ⟨trivial, ⟨trivial, trivial⟩⟩⟩, ⟨⟨k_sub, ⟨⟨k_mul, ⟨trivial, ⟨trivial, trivial⟩⟩⟩, ⟨trivial, trivial⟩⟩⟩, trivial⟩⟩⟩, ⟨⟨⟨⟨k_lt, ⟨⟨k_add, ⟨trivial, ⟨trivial, trivial⟩⟩⟩, ⟨trivial, trivial⟩⟩⟩, ⟨⟨k_ixA, ⟨⟨k_ixA, ⟨trivial, ⟨trivial, trivial⟩⟩⟩, ⟨⟨k_add, ⟨trivial, ⟨trivial, trivial⟩⟩⟩, trivial⟩⟩⟩, trivial⟩⟩, ⟨⟨k_append, trivial, ⟨trivial, trivial⟩⟩, ⟨⟨a_add, trivial⟩, trivial⟩⟩, ⟨⟨k_append, trivial, ⟨trivial, trivial⟩⟩, ⟨⟨a_add, trivial⟩, trivial⟩⟩⟩, trivial⟩⟩, ⟨⟨k_join, trivial, ⟨trivial, trivial⟩⟩, trivial⟩⟩⟩⟩⟩⟩
theorem ok_first_steps (h : HD fbL fnL K mg) : ∃ fd, (∃ dvs kws, FunD K "first_steps" "first_steps" (defArgs st_first_steps) (defBody st_first_steps) (defScope st_first_steps) dvs kws (He.ga K "first_steps") fd ∧ dvs = da_first_steps.dvs K ∧ kws = da_first_steps.kws K) ∧ FnOk P w K mg base CX0 1 (He.ga K "first_steps") fd P_first_steps (spD K mg dn_first_steps) := by
  obtain ⟨fd, F⟩ := h.def_ 28 (d := da_first_steps) rfl
  exact ⟨fd, ⟨_, _, F, rfl, rfl⟩, def_ok F sc_first_steps mt_first_steps (wf_first_steps h)⟩
theorem pr_first_steps_1 (h : HD fbL fnL K mg) {k : Nat} (hk : 1 ≤ k) : PrimOk ⟨P, w, K, mg, base, k⟩ (.call "first_steps") dn_first_steps := by
  obtain ⟨fd, ⟨dvs, kws, F, e1, e2⟩, G⟩ := ok_first_steps (P := P) (w := w) (base := base) h
  subst e1 e2
  have B : Binds K fd P_first_steps [] := FunD.bindsN (ps := P_first_steps) (kws := []) F fun _ _ _ _ _ _ us hl => match us, hl with | [_], _ => rfl
  exact k_fn G hk (h.glo 72 rfl) F.kp B .nil conv0 rfl
/-! Plan_init -/
theorem sc_Plan_init : FnScope N_Plan_init P_Plan_init (defScope st_Plan_init) := ⟨rfl, rfl, rfl, by decide +kernel, rfl, by decide +kernel, by decide +kernel⟩
theorem mt_Plan_init : mtSs N_Plan_init (defScope st_Plan_init) ss_Plan_init (defBody st_Plan_init) = true := by kernel_rfl
theorem wf_Plan_init (h : HD fbL fnL K mg) : WfTs ⟨P, w, K, mg, base, 0⟩ ss_Plan_init := ⟨⟨h.setOk 39 40 41 rfl rfl rfl, trivial⟩, ⟨⟨h.setOk 39 40 42 rfl rfl rfl, trivial⟩, trivial⟩⟩
theorem ok_Plan_init (h : HD fbL fnL K mg) : ∃ fd, (∃ dvs kws, FunD K "__init__" "Plan.__init__" (defArgs st_Plan_init) (defBody st_Plan_init) (defScope st_Plan_init) dvs kws (He.ma K (He.ga K "Plan") "__init__") fd ∧ dvs = da_Plan_init.dvs K ∧ kws = da_Plan_init.kws K) ∧ FnOk P w K mg base CX0 1 (He.ma K (He.ga K "Plan") "__init__") fd P_Plan_init (spD K mg dn_Plan_init) := by
  obtain ⟨fd, F⟩ := h.def_ 29 (d := da_Plan_init) rfl
  exact ⟨fd, ⟨_, _, F, rfl, rfl⟩, def_ok F sc_Plan_init mt_Plan_init (wf_Plan_init h)⟩
theorem mk_Plan_2 (h : HD fbL fnL K mg) {k : Nat} (hk : 2 ≤ k) : PrimOk ⟨P, w, K, mg, base, k⟩ (.call "Plan") (mkD "Plan" dn_Plan_init) := by
  obtain ⟨fd, ⟨dvs, kws, F, e1, e2⟩, G⟩ := ok_Plan_init (P := P) (w := w) (base := base) h
  subst e1 e2
  have B : Binds K fd P_Plan_init [] := FunD.bindsN (ps := P_Plan_init) (kws := []) F fun _ _ _ _ _ _ us hl => match us, hl with | [_, _, _], _ => rfl
  exact k_mk (h.mkr 73 rfl) G hk (h.glo 39 rfl) B .nil conv0 rfl
/-! reached_pairs -/
theorem sc_reached_pairs : FnScope N_reached_pairs P_reached_pairs (defScope st_reached_pairs) := ⟨rfl, rfl, rfl, by decide +kernel, rfl, by decide +kernel, by decide +kernel⟩
theorem mt_reached_pairs : mtSs N_reached_pairs (defScope st_reached_pairs) ss_reached_pairs (defBody st_reached_pairs) = true := by kernel_rfl
theorem wf_reached_pairs (h : HD fbL fnL K mg) : WfTs ⟨P, w, K, mg, base, 0⟩ ss_reached_pairs := ⟨trivial, ⟨⟨⟨(h.free 3 rfl), ⟨k_len (h.free 0 rfl), ⟨trivial, trivial⟩⟩⟩, ⟨⟨⟨(h.free 3 rfl), ⟨k_len (h.free 0 rfl), ⟨trivial, trivial⟩⟩⟩, ⟨⟨⟨k_in, ⟨⟨⟨k_sub, ⟨trivial, ⟨trivial, trivial⟩⟩⟩, ⟨trivial, trivial⟩⟩, ⟨trivial, trivial⟩⟩⟩, ⟨⟨k_in, ⟨⟨trivial, ⟨⟨k_sub, ⟨trivial, ⟨trivial, trivial⟩⟩⟩, trivial⟩⟩, ⟨trivial, trivial⟩⟩⟩, ⟨⟨k_eq, ⟨⟨k_add, ⟨trivial, ⟨trivial, trivial⟩⟩⟩, ⟨trivial, trivial⟩⟩⟩, trivial⟩⟩⟩, ⟨⟨⟨⟨k_ixA, ⟨⟨k_ixA, ⟨trivial, ⟨trivial, trivial⟩⟩⟩, ⟨trivial, trivial⟩⟩⟩, ⟨trivial, trivial⟩⟩, ⟨⟨k_append, trivial, ⟨⟨trivial, ⟨trivial, trivial⟩⟩, trivial⟩⟩, trivial⟩, trivial⟩, trivial⟩⟩⟩, trivial⟩⟩, ⟨trivial, trivial⟩⟩⟩
theorem ok_reached_pairs (h : HD fbL fnL K mg) : ∃ fd, (∃ dvs kws, FunD K "reached_pairs" "reached_pairs" (defArgs st_reached_pairs) (defBody st_reached_pairs) (defScope st_reached_pairs) dvs kws (He.ga K "reached_pairs") fd ∧ dvs = da_reached_pairs.dvs K ∧ kws = da_reached_pairs.kws K) ∧ FnOk P w K mg base CX0 1 (He.ga K "reached_pairs") fd P_reached_pairs (spD K mg dn_reached_pairs) := by
  obtain ⟨fd, F⟩ := h.def_ 30 (d := da_reached_pairs) rfl
  exact ⟨fd, ⟨_, _, F, rfl, rfl⟩, def_ok F sc_reached_pairs mt_reached_pairs (wf_reached_pairs h)⟩
theorem pr_reached_pairs_1 (h : HD fbL fnL K mg) {k : Nat} (hk : 1 ≤ k) : PrimOk ⟨P, w, K, mg, base, k⟩ (.call "reached_pairs") dn_reached_pairs := by
  obtain ⟨fd, ⟨dvs, kws, F, e1, e2⟩, G⟩ := ok_reached_pairs (P := P) (w := w) (base := base) h
  subst e1 e2
  have B : Binds K fd P_reached_pairs [] := FunD.bindsN (ps := P_reached_pairs) (kws := []) F fun _ _ _ _ _ _ us hl => match us, hl with | [_], _ => rfl
  exact k_fn G hk (h.glo 74 rfl) F.kp B .nil conv0 rfl
/-! plan -/
theorem sc_plan : FnScope N_plan P_plan (defScope st_plan) := ⟨rfl, rfl, rfl, by decide +kernel, rfl, by decide +kernel, by decide +kernel⟩
theorem mt_plan : mtSs N_plan (defScope st_plan) ss_plan (defBody st_plan) = true := by kernel_rfl
theorem wf_plan (h : HD fbL fnL K mg) : WfTs ⟨P, w, K, mg, base, 6⟩ ss_plan := ⟨⟨(pr_good_pairs_2 h (by decide)), ⟨trivial, ⟨trivial, trivial⟩⟩⟩, ⟨⟨(pr_finishing_pairs_1 h (by decide)), ⟨trivial, trivial⟩⟩, ⟨⟨⟨k_ixA, ⟨⟨k_ixA, ⟨trivial, ⟨trivial, trivial⟩⟩⟩, ⟨trivial, trivial⟩⟩⟩, ⟨⟨(mk_Plan_2 h (by decide)), ⟨⟨(pr_first_steps_1 h (by decide)), ⟨trivial, trivial⟩⟩, ⟨trivial, trivial⟩⟩⟩, trivial⟩, trivial⟩, ⟨⟨(mk_Plan_2 h (by decide)), ⟨trivial, ⟨⟨k_tuple (h.free 31 rfl), ⟨⟨(pr_reached_pairs_1 h (by decide)), ⟨trivial, trivial⟩⟩, trivial⟩⟩, trivial⟩⟩⟩, trivial⟩⟩⟩⟩
theorem ok_plan (h : HD fbL fnL K mg) : ∃ fd, (∃ dvs kws, FunD K "plan" "plan" (defArgs st_plan) (defBody st_plan) (defScope st_plan) dvs kws (He.ga K "plan") fd ∧ dvs = da_plan.dvs K ∧ kws = da_plan.kws K) ∧ FnOk P w K mg base CX0 7 (He.ga K "plan") fd P_plan (spD K mg dn_plan) := by
  obtain ⟨fd, F⟩ := h.def_ 31 (d := da_plan) rfl
  exact ⟨fd, ⟨_, _, F, rfl, rfl⟩, def_ok F sc_plan mt_plan (wf_plan h)⟩
theorem kf_kb_plan_1_stored (h : HD fbL fnL K mg) {k : Nat} (hk : 7 ≤ k) : CallKOk ⟨P, w, K, mg, base, k⟩ "plan" 1 ["stored"] dn_plan := by
  obtain ⟨fd, ⟨dvs, kws, F, e1, e2⟩, G⟩ := ok_plan (P := P) (w := w) (base := base) h
  subst e1 e2
  obtain ⟨mv, B⟩ := FunD.kbinds0 (K := K) (kws := da_plan.kws K) (ps := P_plan) F 1 ["stored"] [] (fun us mv ws => us ++ ws) (by simp [He5.DefA.kws, da_plan]) (by intro q hq; simp [He5.DefA.kws, da_plan, He.Dv.v] at hq ⊢; try exact hq) (fun r1 r2 r3 => by first | exact (r1.append r3).append r2 | exact r1.append r3) (fun D doc pm an cdv ct us mv ws h1 h2 h3 => by
    match us, mv, ws, h1, h2, h3 with
    | [_], [], [_], _, _, _ => first | rfl | exact ⟨_, _, _, _, _, _, rfl, rfl, rfl⟩)
  exact k_fnk G hk (h.glo 75 rfl) F.kp B convK0 rfl
theorem pr_plan_1 (h : HD fbL fnL K mg) {k : Nat} (hk : 7 ≤ k) : PrimOk ⟨P, w, K, mg, base, k⟩ (.call "plan") (addD [(.bl false)] dn_plan) := by
  obtain ⟨fd, ⟨dvs, kws, F, e1, e2⟩, G⟩ := ok_plan (P := P) (w := w) (base := base) h
  subst e1 e2
  obtain ⟨ds, B0, B⟩ := FunD.binds0 (ps := P_plan) F 1 (by simp [He5.DefA.kws, da_plan]) (by simp [He5.DefA.kws, da_plan, P_plan]) (fun D doc pm an cdv ct us ks h1 h2 => by
    match us, ks, h1, h2 with
    | [_], [_], _, _ => exact ⟨_, _, _, _, _, _, rfl, rfl, rfl⟩)
  exact k_fn G hk (h.glo 75 rfl) F.kp B B0 (convD fun H => (.cons .bl .nil)) rfl
/-! law_plan -/
theorem sc_law_plan : FnScope N_law_plan P_law_plan (defScope st_law_plan) := ⟨rfl, rfl, rfl, by decide +kernel, rfl, by decide +kernel, by decide +kernel⟩
theorem mt_law_plan : mtSs N_law_plan (defScope st_law_plan) ss_law_plan (defBody st_law_plan) = true := by kernel_rfl
theorem wf_law_plan (h : HD fbL fnL K mg) : WfTs ⟨P, w, K, mg, base, 7⟩ ss_law_plan := ⟨⟨trivial, ⟨kf_kb_plan_1_stored h (by decide), ⟨trivial, trivial⟩, ⟨trivial, trivial⟩⟩, ⟨(pr_plan_1 h (by decide)), ⟨trivial, trivial⟩⟩⟩, trivial⟩
theorem ok_law_plan (h : HD fbL fnL K mg) : ∃ fd, (∃ dvs kws, FunD K "_law_plan" "_law_plan" (defArgs st_law_plan) (defBody st_law_plan) (defScope st_law_plan) dvs kws (He.ga K "_law_plan") fd ∧ dvs = da_law_plan.dvs K ∧ kws = da_law_plan.kws K) ∧ FnOk P w K mg base CX0 8 (He.ga K "_law_plan") fd P_law_plan (spD K mg dn_law_plan) := by
  obtain ⟨fd, F⟩ := h.def_ 32 (d := da_law_plan) rfl
  exact ⟨fd, ⟨_, _, F, rfl, rfl⟩, def_ok F sc_law_plan mt_law_plan (wf_law_plan h)⟩
theorem pr_law_plan_2 (h : HD fbL fnL K mg) {k : Nat} (hk : 8 ≤ k) : PrimOk ⟨P, w, K, mg, base, k⟩ (.call "_law_plan") dn_law_plan := by
  obtain ⟨fd, ⟨dvs, kws, F, e1, e2⟩, G⟩ := ok_law_plan (P := P) (w := w) (base := base) h
  subst e1 e2
  have B : Binds K fd P_law_plan [] := FunD.bindsN (ps := P_law_plan) (kws := []) F fun _ _ _ _ _ _ us hl => match us, hl with | [_, _], _ => rfl
  exact k_fn G hk (h.glo 76 rfl) F.kp B .nil conv0 rfl
/-! law_homes -/
theorem sc_law_homes : FnScope N_law_homes P_law_homes (defScope st_law_homes) := ⟨rfl, rfl, rfl, by decide +kernel, rfl, by decide +kernel, by decide +kernel⟩
theorem mt_law_homes : mtSs N_law_homes (defScope st_law_homes) ss_law_homes (defBody st_law_homes) = true := by kernel_rfl
theorem wf_law_homes (h : HD fbL fnL K mg) : WfTs ⟨P, w, K, mg, base, 0⟩ ss_law_homes := ⟨trivial, ⟨⟨trivial, ⟨⟨⟨k_ixA, ⟨trivial, ⟨trivial, trivial⟩⟩⟩, trivial⟩, trivial⟩⟩, ⟨trivial, trivial⟩⟩⟩
theorem ok_law_homes (h : HD fbL fnL K mg) : ∃ fd, (∃ dvs kws, FunD K "_law_homes" "_law_homes" (defArgs st_law_homes) (defBody st_law_homes) (defScope st_law_homes) dvs kws (He.ga K "_law_homes") fd ∧ dvs = da_law_homes.dvs K ∧ kws = da_law_homes.kws K) ∧ FnOk P w K mg base CX0 1 (He.ga K "_law_homes") fd P_law_homes (spD K mg dn_law_homes) := by
  obtain ⟨fd, F⟩ := h.def_ 33 (d := da_law_homes) rfl
  exact ⟨fd, ⟨_, _, F, rfl, rfl⟩, def_ok F sc_law_homes mt_law_homes (wf_law_homes h)⟩
theorem pr_law_homes_2 (h : HD fbL fnL K mg) {k : Nat} (hk : 1 ≤ k) : PrimOk ⟨P, w, K, mg, base, k⟩ (.call "_law_homes") dn_law_homes := by
  obtain ⟨fd, ⟨dvs, kws, F, e1, e2⟩, G⟩ := ok_law_homes (P := P) (w := w) (base := base) h
  subst e1 e2
  have B : Binds K fd P_law_homes [] := FunD.bindsN (ps := P_law_homes) (kws := []) F fun _ _ _ _ _ _ us hl => match us, hl with | [_, _], _ => rfl
  exact k_fn G hk (h.glo 77 rfl) F.kp B .nil conv0 rfl
/-! law_kept -/
theorem sc_law_kept : FnScope N_law_kept P_law_kept (defScope st_law_kept) := ⟨rfl, rfl, rfl, by decide +kernel, rfl, by decide +kernel, by decide +kernel⟩
theorem mt_law_kept : mtSs N_law_kept (defScope st_law_kept) ss_law_kept (defBody st_law_kept) = true := by kernel_rfl
theorem wf_law_kept (h : HD fbL fnL K mg) : WfTs ⟨P, w, K, mg, base, 0⟩ ss_law_kept := ⟨trivial, ⟨⟨⟨k_ne, ⟨⟨k_isN, ⟨⟨k_ixA, ⟨trivial, ⟨trivial, trivial⟩⟩⟩, ⟨trivial, trivial⟩⟩⟩, ⟨⟨k_isN, ⟨⟨k_ixA, ⟨trivial, ⟨trivial, trivial⟩⟩⟩, ⟨trivial, trivial⟩⟩⟩, trivial⟩⟩⟩, ⟨⟨k_append, trivial, ⟨⟨⟨k_isN, ⟨⟨k_ixA, ⟨trivial, ⟨trivial, trivial⟩⟩⟩, ⟨trivial, trivial⟩⟩⟩, trivial, trivial⟩, trivial⟩⟩, trivial⟩, ⟨⟨⟨⟨k_notN, ⟨⟨k_ixA, ⟨trivial, ⟨trivial, trivial⟩⟩⟩, ⟨trivial, trivial⟩⟩⟩, ⟨⟨k_ne, ⟨⟨k_ixA, ⟨trivial, ⟨trivial, trivial⟩⟩⟩, ⟨⟨k_ixA, ⟨trivial, ⟨trivial, trivial⟩⟩⟩, trivial⟩⟩⟩, trivial⟩⟩, ⟨⟨k_append, trivial, ⟨trivial, trivial⟩⟩, trivial⟩, trivial⟩, trivial⟩⟩, ⟨⟨⟨k_ne, ⟨⟨k_ixA, ⟨trivial, ⟨trivial, trivial⟩⟩⟩, ⟨⟨k_ixA, ⟨trivial, ⟨trivial, trivial⟩⟩⟩, trivial⟩⟩⟩, ⟨⟨⟨k_in, ⟨trivial, ⟨⟨⟨k_ixA, ⟨trivial, ⟨trivial, trivial⟩⟩⟩, ⟨⟨k_ixA, ⟨trivial, ⟨trivial, trivial⟩⟩⟩, trivial⟩⟩, trivial⟩⟩⟩, ⟨⟨k_append, trivial, ⟨trivial, trivial⟩⟩, trivial⟩, ⟨⟨⟨k_in, ⟨trivial, ⟨⟨⟨k_ixA, ⟨trivial, ⟨trivial, trivial⟩⟩⟩, ⟨⟨k_ixA, ⟨trivial, ⟨trivial, trivial⟩⟩⟩, trivial⟩⟩, trivial⟩⟩⟩, ⟨⟨k_append, trivial, ⟨trivial, trivial⟩⟩, trivial⟩, ⟨⟨k_append, trivial, ⟨⟨⟨k_eq, ⟨⟨k_ixA, ⟨trivial, ⟨trivial, trivial⟩⟩⟩, ⟨trivial, trivial⟩⟩⟩, trivial, trivial⟩, trivial⟩⟩, trivial⟩⟩, trivial⟩⟩, trivial⟩, trivial⟩, ⟨trivial, trivial⟩⟩⟩⟩
theorem ok_law_kept (h : HD fbL fnL K mg) : ∃ fd, (∃ dvs kws, FunD K "_law_kept" "_law_kept" (defArgs st_law_kept) (defBody st_law_kept) (defScope st_law_kept) dvs kws (He.ga K "_law_kept") fd ∧ dvs = da_law_kept.dvs K ∧ kws = da_law_kept.kws K) ∧ FnOk P w K mg base CX0 1 (He.ga K "_law_kept") fd P_law_kept (spD K mg dn_law_kept) := by
  obtain ⟨fd, F⟩ := h.def_ 34 (d := da_law_kept) rfl
  exact ⟨fd, ⟨_, _, F, rfl, rfl⟩, def_ok F sc_law_kept mt_law_kept (wf_law_kept h)⟩
theorem pr_law_kept_2 (h : HD fbL fnL K mg) {k : Nat} (hk : 1 ≤ k) : PrimOk ⟨P, w, K, mg, base, k⟩ (.call "_law_kept") dn_law_kept := by
  obtain ⟨fd, ⟨dvs, kws, F, e1, e2⟩, G⟩ := ok_law_kept (P := P) (w := w) (base := base) h
  subst e1 e2
  have B : Binds K fd P_law_kept [] := FunD.bindsN (ps := P_law_kept) (kws := []) F fun _ _ _ _ _ _ us hl => match us, hl with | [_, _], _ => rfl
  exact k_fn G hk (h.glo 78 rfl) F.kp B .nil conv0 rfl
/-! law_changes -/
theorem sc_law_changes : FnScope N_law_changes P_law_changes (defScope st_law_changes) := ⟨rfl, rfl, rfl, by decide +kernel, rfl, by decide +kernel, by decide +kernel⟩
theorem mt_law_changes : mtSs N_law_changes (defScope st_law_changes) ss_law_changes (defBody st_law_changes) = true := by kernel_rfl
theorem wf_law_changes (h : HD fbL fnL K mg) : WfTs ⟨P, w, K, mg, base, 1⟩ ss_law_changes := ⟨⟨⟨(pr_law_homes_2 h (by decide)), ⟨trivial, ⟨trivial, trivial⟩⟩⟩, ⟨⟨(pr_law_homes_2 h (by decide)), ⟨trivial, ⟨trivial, trivial⟩⟩⟩, ⟨⟨(pr_law_homes_2 h (by decide)), ⟨trivial, ⟨trivial, trivial⟩⟩⟩, ⟨trivial, trivial⟩⟩⟩⟩, ⟨⟨trivial, ⟨⟨⟨⟨k_nin, ⟨⟨k_ixA, ⟨trivial, ⟨trivial, trivial⟩⟩⟩, ⟨trivial, trivial⟩⟩⟩, ⟨⟨k_ne, ⟨⟨k_ixA, ⟨⟨k_ixA, ⟨trivial, ⟨⟨k_ixA, ⟨trivial, ⟨trivial, trivial⟩⟩⟩, trivial⟩⟩⟩, ⟨trivial, trivial⟩⟩⟩, ⟨⟨k_ixA, ⟨trivial, ⟨trivial, trivial⟩⟩⟩, trivial⟩⟩⟩, trivial⟩⟩, ⟨⟨k_append, trivial, ⟨⟨⟨⟨k_isN, ⟨⟨k_ixA, ⟨trivial, ⟨trivial, trivial⟩⟩⟩, ⟨trivial, trivial⟩⟩⟩, trivial, trivial⟩, ⟨⟨k_ixA, ⟨trivial, ⟨trivial, trivial⟩⟩⟩, trivial⟩⟩, trivial⟩⟩, trivial⟩, ⟨⟨k_add, ⟨trivial, ⟨⟨⟨(pr_law_kept_2 h (by decide)), ⟨trivial, ⟨⟨k_ixA, ⟨trivial, ⟨⟨k_ixA, ⟨trivial, ⟨trivial, trivial⟩⟩⟩, trivial⟩⟩⟩, trivial⟩⟩⟩, trivial, ⟨trivial, ⟨⟨k_ixA, ⟨trivial, ⟨trivial, trivial⟩⟩⟩, trivial⟩⟩⟩, trivial⟩⟩⟩, trivial⟩⟩, trivial⟩⟩, ⟨⟨trivial, ⟨⟨⟨⟨k_nin, ⟨⟨k_ixA, ⟨trivial, ⟨trivial, trivial⟩⟩⟩, ⟨trivial, trivial⟩⟩⟩, ⟨⟨k_ne, ⟨⟨k_ixA, ⟨⟨k_ixA, ⟨trivial, ⟨⟨k_ixA, ⟨trivial, ⟨trivial, trivial⟩⟩⟩, trivial⟩⟩⟩, ⟨trivial, trivial⟩⟩⟩, ⟨⟨k_ixA, ⟨trivial, ⟨trivial, trivial⟩⟩⟩, trivial⟩⟩⟩, trivial⟩⟩, ⟨⟨k_append, trivial, ⟨⟨⟨⟨k_isN, ⟨⟨k_ixA, ⟨trivial, ⟨trivial, trivial⟩⟩⟩, ⟨trivial, trivial⟩⟩⟩, trivial, trivial⟩, ⟨⟨k_ixA, ⟨trivial, ⟨trivial, trivial⟩⟩⟩, trivial⟩⟩, trivial⟩⟩, trivial⟩, trivial⟩, ⟨⟨⟨⟨k_in, ⟨⟨k_ixA, ⟨trivial, ⟨trivial, trivial⟩⟩⟩, ⟨trivial, trivial⟩⟩⟩, ⟨⟨k_ne, ⟨⟨k_ixA, ⟨⟨k_ixA, ⟨trivial, ⟨⟨k_ixA, ⟨trivial, ⟨trivial, trivial⟩⟩⟩, trivial⟩⟩⟩, ⟨trivial, trivial⟩⟩⟩, ⟨⟨k_ixA, ⟨trivial, ⟨trivial, trivial⟩⟩⟩, trivial⟩⟩⟩, trivial⟩⟩, ⟨⟨k_append, trivial, ⟨⟨trivial, ⟨⟨k_ixA, ⟨trivial, ⟨trivial, trivial⟩⟩⟩, trivial⟩⟩, trivial⟩⟩, trivial⟩, trivial⟩, ⟨⟨⟨⟨k_in, ⟨⟨k_ixA, ⟨trivial, ⟨trivial, trivial⟩⟩⟩, ⟨trivial, trivial⟩⟩⟩, ⟨⟨k_ne, ⟨⟨k_ixA, ⟨⟨k_ixA, ⟨trivial, ⟨⟨k_ixA, ⟨trivial, ⟨trivial, trivial⟩⟩⟩, trivial⟩⟩⟩, ⟨trivial, trivial⟩⟩⟩, ⟨⟨k_ixA, ⟨trivial, ⟨trivial, trivial⟩⟩⟩, trivial⟩⟩⟩, trivial⟩⟩, ⟨⟨k_append, trivial, ⟨⟨trivial, ⟨⟨k_ixA, ⟨trivial, ⟨trivial, trivial⟩⟩⟩, trivial⟩⟩, trivial⟩⟩, trivial⟩, trivial⟩, trivial⟩⟩⟩⟩, ⟨trivial, trivial⟩⟩⟩⟩
theorem ok_law_changes (h : HD fbL fnL K mg) : ∃ fd, (∃ dvs kws, FunD K "_law_changes" "_law_changes" (defArgs st_law_changes) (defBody st_law_changes) (defScope st_law_changes) dvs kws (He.ga K "_law_changes") fd ∧ dvs = da_law_changes.dvs K ∧ kws = da_law_changes.kws K) ∧ FnOk P w K mg base CX0 2 (He.ga K "_law_changes") fd P_law_changes (spD K mg dn_law_changes) := by
  obtain ⟨fd, F⟩ := h.def_ 35 (d := da_law_changes) rfl
  exact ⟨fd, ⟨_, _, F, rfl, rfl⟩, def_ok F sc_law_changes mt_law_changes (wf_law_changes h)⟩
theorem pr_law_changes_2 (h : HD fbL fnL K mg) {k : Nat} (hk : 2 ≤ k) : PrimOk ⟨P, w, K, mg, base, k⟩ (.call "_law_changes") dn_law_changes := by
  obtain ⟨fd, ⟨dvs, kws, F, e1, e2⟩, G⟩ := ok_law_changes (P := P) (w := w) (base := base) h
  subst e1 e2
  have B : Binds K fd P_law_changes [] := FunD.bindsN (ps := P_law_changes) (kws := []) F fun _ _ _ _ _ _ us hl => match us, hl with | [_, _], _ => rfl
  exact k_fn G hk (h.glo 79 rfl) F.kp B .nil conv0 rfl
/-! law_reads -/
theorem sc_law_reads : FnScope N_law_reads P_law_reads (defScope st_law_reads) := ⟨rfl, rfl, rfl, by decide +kernel, rfl, by decide +kernel, by decide +kernel⟩
theorem mt_law_reads : mtSs N_law_reads (defScope st_law_reads) ss_law_reads (defBody st_law_reads) = true := by kernel_rfl
theorem wf_law_reads (h : HD fbL fnL K mg) : WfTs ⟨P, w, K, mg, base, 2⟩ ss_law_reads := ⟨⟨⟨k_split, trivial, ⟨trivial, trivial⟩⟩, ⟨trivial, ⟨trivial, trivial⟩⟩⟩, ⟨⟨⟨k_lt, ⟨trivial, ⟨trivial, trivial⟩⟩⟩, ⟨⟨⟨k_split, trivial, ⟨trivial, trivial⟩⟩, ⟨trivial, ⟨trivial, trivial⟩⟩⟩, trivial⟩, trivial⟩, ⟨⟨k_any (h.free 30 rfl), ⟨⟨⟨(pr_law_changes_2 h (by decide)), ⟨⟨k_ixA, ⟨trivial, ⟨trivial, trivial⟩⟩⟩, ⟨⟨k_ixA, ⟨trivial, ⟨trivial, trivial⟩⟩⟩, trivial⟩⟩⟩, trivial, ⟨k_in, ⟨trivial, ⟨trivial, trivial⟩⟩⟩⟩, trivial⟩⟩, trivial⟩⟩⟩
theorem ok_law_reads (h : HD fbL fnL K mg) : ∃ fd, (∃ dvs kws, FunD K "_law_reads" "_law_reads" (defArgs st_law_reads) (defBody st_law_reads) (defScope st_law_reads) dvs kws (He.ga K "_law_reads") fd ∧ dvs = da_law_reads.dvs K ∧ kws = da_law_reads.kws K) ∧ FnOk P w K mg base CX0 3 (He.ga K "_law_reads") fd P_law_reads (spD K mg dn_law_reads) := by
  obtain ⟨fd, F⟩ := h.def_ 36 (d := da_law_reads) rfl
  exact ⟨fd, ⟨_, _, F, rfl, rfl⟩, def_ok F sc_law_reads mt_law_reads (wf_law_reads h)⟩
theorem pr_law_reads_3 (h : HD fbL fnL K mg) {k : Nat} (hk : 3 ≤ k) : PrimOk ⟨P, w, K, mg, base, k⟩ (.call "_law_reads") dn_law_reads := by
  obtain ⟨fd, ⟨dvs, kws, F, e1, e2⟩, G⟩ := ok_law_reads (P := P) (w := w) (base := base) h
  subst e1 e2
  have B : Binds K fd P_law_reads [] := FunD.bindsN (ps := P_law_reads) (kws := []) F fun _ _ _ _ _ _ us hl => match us, hl with | [_, _, _], _ => rfl
  exact k_fn G hk (h.glo 80 rfl) F.kp B .nil conv0 rfl
/-! law_table -/
theorem sc_law_table : FnScope N_law_table P_law_table (defScope st_law_table) := ⟨rfl, rfl, rfl, by decide +kernel, rfl, by decide +kernel, by decide +kernel⟩
theorem mt_law_table : mtSs N_law_table (defScope st_law_table) ss_law_table (defBody st_law_table) = true := by kernel_rfl
theorem wf_law_table (h : HD fbL fnL K mg) : WfTs ⟨P, w, K, mg, base, 3⟩ ss_law_table := ⟨⟨k_len (h.free 0 rfl), ⟨trivial, trivial⟩⟩, ⟨⟨⟨(h.free 3 rfl), trivial⟩, trivial, ⟨⟨(h.free 3 rfl), trivial⟩, trivial, ⟨(pr_law_reads_3 h (by decide)), ⟨trivial, ⟨trivial, ⟨trivial, trivial⟩⟩⟩⟩⟩⟩, ⟨⟨trivial, ⟨⟨⟨(h.free 3 rfl), trivial, trivial⟩, ⟨⟨trivial, ⟨⟨(h.free 3 rfl), trivial⟩, trivial, ⟨⟨k_ixA, ⟨⟨k_ixA, ⟨trivial, ⟨trivial, trivial⟩⟩⟩, ⟨trivial, trivial⟩⟩⟩, ⟨⟨k_ixA, ⟨⟨k_ixA, ⟨trivial, ⟨⟨k_sub, ⟨trivial, ⟨trivial, trivial⟩⟩⟩, trivial⟩⟩⟩, ⟨trivial, trivial⟩⟩⟩, trivial⟩⟩⟩⟩, trivial⟩⟩, trivial⟩, trivial⟩, ⟨trivial, trivial⟩⟩⟩⟩
theorem ok_law_table (h : HD fbL fnL K mg) : ∃ fd, (∃ dvs kws, FunD K "_law_table" "_law_table" (defArgs st_law_table) (defBody st_law_table) (defScope st_law_table) dvs kws (He.ga K "_law_table") fd ∧ dvs = da_law_table.dvs K ∧ kws = da_law_table.kws K) ∧ FnOk P w K mg base CX0 4 (He.ga K "_law_table") fd P_law_table (spD K mg dn_law_table) := by
  obtain ⟨fd, F⟩ := h.def_ 37 (d := da_law_table) rfl
  exact ⟨fd, ⟨_, _, F, rfl, rfl⟩, def_ok F sc_law_table mt_law_table (wf_law_table h)⟩
theorem pr_law_table_2 (h : HD fbL fnL K mg) {k : Nat} (hk : 4 ≤ k) : PrimOk ⟨P, w, K, mg, base, k⟩ (.call "_law_table") dn_law_table := by
  obtain ⟨fd, ⟨dvs, kws, F, e1, e2⟩, G⟩ := ok_law_table (P := P) (w := w) (base := base) h
  subst e1 e2
  have B : Binds K fd P_law_table [] := FunD.bindsN (ps := P_law_table) (kws := []) F fun _ _ _ _ _ _ us hl => match us, hl with | [_, _], _ => rfl
  exact k_fn G hk (h.glo 81 rfl) F.kp B .nil conv0 rfl
/-! Plan_is_possible -/
theorem sc_Plan_is_possible : FnScope N_Plan_is_possible P_Plan_is_possible (defScope st_Plan_is_possible) := ⟨rfl, rfl, rfl, by decide +kernel, rfl, by decide +kernel, by decide +kernel⟩
theorem mt_Plan_is_possible : mtSs N_Plan_is_possible (defScope st_Plan_is_possible) ss_Plan_is_possible (defBody st_Plan_is_possible) = true := by kernel_rfl
theorem wf_Plan_is_possible (h : HD fbL fnL K mg) : WfTs ⟨P, w, K, mg, base, 0⟩ ss_Plan_is_possible := ⟨⟨k_notN, ⟨⟨(pa_steps h), ⟨trivial, trivial⟩⟩, ⟨trivial, trivial⟩⟩⟩, trivial⟩
theorem ok_Plan_is_possible (h : HD fbL fnL K mg) : ∃ fd, (∃ dvs kws, FunD K "is_possible" "Plan.is_possible" (defArgs st_Plan_is_possible) (defBody st_Plan_is_possible) (defScope st_Plan_is_possible) dvs kws (He5.wf K (He.ga K "Plan") "property" "is_possible") fd ∧ dvs = da_Plan_is_possible.dvs K ∧ kws = da_Plan_is_possible.kws K) ∧ FnOk P w K mg base CX0 1 (He5.wf K (He.ga K "Plan") "property" "is_possible") fd P_Plan_is_possible (spD K mg dn_Plan_is_possible) := by
  obtain ⟨fd, F⟩ := h.def_ 38 (d := da_Plan_is_possible) rfl
  exact ⟨fd, ⟨_, _, F, rfl, rfl⟩, def_ok F sc_Plan_is_possible mt_Plan_is_possible (wf_Plan_is_possible h)⟩
theorem pp_Plan_is_possible (h : HD fbL fnL K mg) {k : Nat} (hk : 2 ≤ k) : PrimOk ⟨P, w, K, mg, base, k⟩ (.attr "is_possible") (clsD "Plan" dn_Plan_is_possible) := by
  obtain ⟨fd, ⟨dvs, kws, F, e1, e2⟩, G⟩ := ok_Plan_is_possible (P := P) (w := w) (base := base) h
  subst e1 e2
  have B : Binds K fd P_Plan_is_possible [] := FunD.bindsN (ps := P_Plan_is_possible) (kws := []) F fun _ _ _ _ _ _ us hl => match us, hl with | [_], _ => rfl
  exact k_prop (h.prop 39 40 82 rfl rfl rfl) G hk B
/-! law_walked -/
theorem sc_law_walked : FnScope N_law_walked P_law_walked (defScope st_law_walked) := ⟨rfl, rfl, rfl, by decide +kernel, rfl, by decide +kernel, by decide +kernel⟩
theorem mt_law_walked : mtSs N_law_walked (defScope st_law_walked) ss_law_walked (defBody st_law_walked) = true := by kernel_rfl
theorem wf_law_walked (h : HD fbL fnL K mg) : WfTs ⟨P, w, K, mg, base, 0⟩ ss_law_walked := ⟨⟨⟨k_len (h.free 0 rfl), ⟨trivial, trivial⟩⟩, ⟨trivial, ⟨trivial, trivial⟩⟩⟩, ⟨⟨⟨⟨k_isi (h.free 7 rfl) (h.isi 8 rfl), ⟨trivial, ⟨(h.typ 11 rfl (by decide) rfl), trivial⟩⟩⟩, ⟨⟨k_ne, ⟨⟨k_len (h.free 0 rfl), ⟨trivial, trivial⟩⟩, ⟨⟨k_sub, ⟨⟨k_mul, ⟨trivial, ⟨trivial, trivial⟩⟩⟩, ⟨trivial, trivial⟩⟩⟩, trivial⟩⟩⟩, trivial⟩⟩, ⟨trivial, trivial⟩, trivial⟩, ⟨⟨trivial, ⟨⟨⟨k_nin, ⟨trivial, ⟨⟨trivial, ⟨trivial, trivial⟩⟩, trivial⟩⟩⟩, ⟨trivial, trivial⟩, trivial⟩, ⟨⟨⟨k_add, ⟨trivial, ⟨⟨k_int (h.free 4 rfl), ⟨⟨k_eq, ⟨trivial, ⟨trivial, trivial⟩⟩⟩, trivial⟩⟩, trivial⟩⟩⟩, ⟨⟨k_add, ⟨trivial, ⟨⟨k_int (h.free 4 rfl), ⟨⟨k_eq, ⟨trivial, ⟨trivial, trivial⟩⟩⟩, trivial⟩⟩, trivial⟩⟩⟩, trivial⟩⟩, ⟨⟨⟨⟨k_ge, ⟨trivial, ⟨trivial, trivial⟩⟩⟩, ⟨⟨k_ge, ⟨trivial, ⟨trivial, trivial⟩⟩⟩, ⟨⟨k_ixA, ⟨⟨k_ixA, ⟨trivial, ⟨trivial, trivial⟩⟩⟩, ⟨trivial, trivial⟩⟩⟩, trivial⟩⟩⟩, ⟨trivial, trivial⟩, trivial⟩, trivial⟩⟩⟩⟩, ⟨trivial, trivial⟩⟩⟩⟩
theorem ok_law_walked (h : HD fbL fnL K mg) : ∃ fd, (∃ dvs kws, FunD K "_law_walked" "_law_walked" (defArgs st_law_walked) (defBody st_law_walked) (defScope st_law_walked) dvs kws (He.ga K "_law_walked") fd ∧ dvs = da_law_walked.dvs K ∧ kws = da_law_walked.kws K) ∧ FnOk P w K mg base CX0 1 (He.ga K "_law_walked") fd P_law_walked (spD K mg dn_law_walked) := by
  obtain ⟨fd, F⟩ := h.def_ 39 (d := da_law_walked) rfl
  exact ⟨fd, ⟨_, _, F, rfl, rfl⟩, def_ok F sc_law_walked mt_law_walked (wf_law_walked h)⟩
theorem pr_law_walked_2 (h : HD fbL fnL K mg) {k : Nat} (hk : 1 ≤ k) : PrimOk ⟨P, w, K, mg, base, k⟩ (.call "_law_walked") dn_law_walked := by
  obtain ⟨fd, ⟨dvs, kws, F, e1, e2⟩, G⟩ := ok_law_walked (P := P) (w := w) (base := base) h
  subst e1 e2
  have B : Binds K fd P_law_walked [] := FunD.bindsN (ps := P_law_walked) (kws := []) F fun _ _ _ _ _ _ us hl => match us, hl with | [_, _], _ => rfl
  exact k_fn G hk (h.glo 83 rfl) F.kp B .nil conv0 rfl
/-! law_shut -/
theorem sc_law_shut : FnScope N_law_shut P_law_shut (defScope st_law_shut) := ⟨rfl, rfl, rfl, by decide +kernel, rfl, by decide +kernel, by decide +kernel⟩
theorem mt_law_shut : mtSs N_law_shut (defScope st_law_shut) ss_law_shut (defBody st_law_shut) = true := by kernel_rfl
theorem wf_law_shut (h : HD fbL fnL K mg) : WfTs ⟨P, w, K, mg, base, 0⟩ ss_law_shut := ⟨⟨k_len (h.free 0 rfl), ⟨trivial, trivial⟩⟩, ⟨⟨⟨⟨k_isi (h.free 7 rfl) (h.isi 8 rfl), ⟨trivial, ⟨(h.typ 31 rfl (by decide) rfl), trivial⟩⟩⟩, ⟨trivial, ⟨⟨k_ne, ⟨⟨k_ixA, ⟨trivial, ⟨trivial, trivial⟩⟩⟩, ⟨⟨trivial, ⟨trivial, trivial⟩⟩, trivial⟩⟩⟩, ⟨⟨k_in, ⟨⟨⟨k_sub, ⟨trivial, ⟨trivial, trivial⟩⟩⟩, ⟨⟨k_sub, ⟨trivial, ⟨trivial, trivial⟩⟩⟩, trivial⟩⟩, ⟨trivial, trivial⟩⟩⟩, trivial⟩⟩⟩⟩, ⟨trivial, trivial⟩, trivial⟩, ⟨⟨trivial, ⟨⟨⟨⟨k_isi (h.free 7 rfl) (h.isi 8 rfl), ⟨trivial, ⟨(h.typ 31 rfl (by decide) rfl), trivial⟩⟩⟩, ⟨⟨k_ne, ⟨⟨k_len (h.free 0 rfl), ⟨trivial, trivial⟩⟩, ⟨trivial, trivial⟩⟩⟩, ⟨⟨k_all (h.free 13 rfl), ⟨⟨trivial, trivial, ⟨k_isi (h.free 7 rfl) (h.isi 8 rfl), ⟨trivial, ⟨(h.typ 4 rfl (by decide) rfl), trivial⟩⟩⟩⟩, trivial⟩⟩, trivial⟩⟩⟩, ⟨trivial, trivial⟩, trivial⟩, ⟨⟨⟨⟨k_any (h.free 30 rfl), ⟨⟨trivial, trivial, ⟨⟨k_isi (h.free 7 rfl) (h.isi 8 rfl), ⟨trivial, ⟨(h.typ 9 rfl (by decide) rfl), trivial⟩⟩⟩, ⟨⟨k_le, k_lt, trivial, trivial, trivial⟩, trivial⟩⟩⟩, trivial⟩⟩, ⟨⟨k_ixA, ⟨⟨k_ixA, ⟨trivial, ⟨⟨k_ixA, ⟨trivial, ⟨trivial, trivial⟩⟩⟩, trivial⟩⟩⟩, ⟨⟨k_ixA, ⟨trivial, ⟨trivial, trivial⟩⟩⟩, trivial⟩⟩⟩, trivial⟩⟩, ⟨trivial, trivial⟩, trivial⟩, ⟨⟨⟨⟨k_ne, ⟨trivial, ⟨⟨trivial, ⟨trivial, trivial⟩⟩, trivial⟩⟩⟩, ⟨⟨k_nin, ⟨⟨⟨k_sub, ⟨⟨k_ixA, ⟨trivial, ⟨trivial, trivial⟩⟩⟩, ⟨trivial, trivial⟩⟩⟩, ⟨⟨k_ixA, ⟨trivial, ⟨trivial, trivial⟩⟩⟩, trivial⟩⟩, ⟨trivial, trivial⟩⟩⟩, ⟨⟨k_nin, ⟨⟨⟨k_ixA, ⟨trivial, ⟨trivial, trivial⟩⟩⟩, ⟨⟨k_sub, ⟨⟨k_ixA, ⟨trivial, ⟨trivial, trivial⟩⟩⟩, ⟨trivial, trivial⟩⟩⟩, trivial⟩⟩, ⟨trivial, trivial⟩⟩⟩, trivial⟩⟩⟩, ⟨trivial, trivial⟩, trivial⟩, ⟨⟨⟨⟨⟨k_add, ⟨⟨k_ixA, ⟨trivial, ⟨trivial, trivial⟩⟩⟩, ⟨trivial, trivial⟩⟩⟩, ⟨⟨k_ixA, ⟨trivial, ⟨trivial, trivial⟩⟩⟩, trivial⟩⟩, ⟨⟨⟨k_ixA, ⟨trivial, ⟨trivial, trivial⟩⟩⟩, ⟨⟨k_add, ⟨⟨k_ixA, ⟨trivial, ⟨trivial, trivial⟩⟩⟩, ⟨trivial, trivial⟩⟩⟩, trivial⟩⟩, trivial⟩⟩, ⟨⟨⟨⟨k_lt, ⟨trivial, ⟨trivial, trivial⟩⟩⟩, ⟨⟨k_lt, ⟨trivial, ⟨trivial, trivial⟩⟩⟩, ⟨⟨k_ixA, ⟨⟨k_ixA, ⟨trivial, ⟨trivial, trivial⟩⟩⟩, ⟨trivial, trivial⟩⟩⟩, ⟨⟨k_nin, ⟨⟨trivial, ⟨trivial, trivial⟩⟩, ⟨trivial, trivial⟩⟩⟩, trivial⟩⟩⟩⟩, ⟨trivial, trivial⟩, trivial⟩, trivial⟩⟩, trivial⟩⟩⟩⟩⟩, ⟨⟨k_all (h.free 13 rfl), ⟨⟨⟨(h.free 3 rfl), ⟨k_sub, ⟨⟨k_len (h.free 0 rfl), ⟨trivial, trivial⟩⟩, ⟨trivial, trivial⟩⟩⟩⟩, trivial, ⟨k_ltT, ⟨⟨k_ixA, ⟨trivial, ⟨trivial, trivial⟩⟩⟩, ⟨⟨k_ixA, ⟨trivial, ⟨⟨k_add, ⟨trivial, ⟨trivial, trivial⟩⟩⟩, trivial⟩⟩⟩, trivial⟩⟩⟩⟩, trivial⟩⟩, trivial⟩⟩⟩⟩
theorem ok_law_shut (h : HD fbL fnL K mg) : ∃ fd, (∃ dvs kws, FunD K "_law_shut" "_law_shut" (defArgs st_law_shut) (defBody st_law_shut) (defScope st_law_shut) dvs kws (He.ga K "_law_shut") fd ∧ dvs = da_law_shut.dvs K ∧ kws = da_law_shut.kws K) ∧ FnOk P w K mg base CX0 1 (He.ga K "_law_shut") fd P_law_shut (spD K mg dn_law_shut) := by
  obtain ⟨fd, F⟩ := h.def_ 40 (d := da_law_shut) rfl
  exact ⟨fd, ⟨_, _, F, rfl, rfl⟩, def_ok F sc_law_shut mt_law_shut (wf_law_shut h)⟩
theorem pr_law_shut_2 (h : HD fbL fnL K mg) {k : Nat} (hk : 1 ≤ k) : PrimOk ⟨P, w, K, mg, base, k⟩ (.call "_law_shut") dn_law_shut := by
  obtain ⟨fd, ⟨dvs, kws, F, e1, e2⟩, G⟩ := ok_law_shut (P := P) (w := w) (base := base) h
  subst e1 e2
  have B : Binds K fd P_law_shut [] := FunD.bindsN (ps := P_law_shut) (kws := []) F fun _ _ _ _ _ _ us hl => match us, hl with | [_, _], _ => rfl
  exact k_fn G hk (h.glo 84 rfl) F.kp B .nil conv0 rfl
/-! law_right -/
theorem sc_law_right : FnScope N_law_right P_law_right (defScope st_law_right) := ⟨rfl, rfl, rfl, by decide +kernel, rfl, by decide +kernel, by decide +kernel⟩
theorem mt_law_right : mtSs N_law_right (defScope st_law_right) ss_law_right (defBody st_law_right) = true := by kernel_rfl
theorem wf_law_right (h : HD fbL fnL K mg) : WfTs ⟨P, w, K, mg, base, 2⟩ ss_law_right := ⟨⟨⟨k_isi (h.free 7 rfl) (h.isi 8 rfl), ⟨trivial, ⟨(h.cls 39 rfl), trivial⟩⟩⟩, ⟨trivial, trivial⟩, trivial⟩, ⟨⟨⟨k_isB, ⟨⟨pp_Plan_is_possible h (by decide), ⟨trivial, trivial⟩⟩, ⟨trivial, trivial⟩⟩⟩, ⟨⟨⟨k_isN, ⟨⟨(pa_cells h), ⟨trivial, trivial⟩⟩, ⟨trivial, trivial⟩⟩⟩, ⟨⟨(pr_law_walked_2 h (by decide)), ⟨⟨(pa_steps h), ⟨trivial, trivial⟩⟩, ⟨trivial, trivial⟩⟩⟩, trivial⟩⟩, trivial⟩, trivial⟩, ⟨⟨⟨k_isB, ⟨⟨pp_Plan_is_possible h (by decide), ⟨trivial, trivial⟩⟩, ⟨trivial, trivial⟩⟩⟩, ⟨⟨k_isN, ⟨⟨(pa_steps h), ⟨trivial, trivial⟩⟩, ⟨trivial, trivial⟩⟩⟩, ⟨⟨(pr_law_shut_2 h (by decide)), ⟨⟨(pa_cells h), ⟨trivial, trivial⟩⟩, ⟨trivial, trivial⟩⟩⟩, trivial⟩⟩⟩, trivial⟩⟩⟩
theorem ok_law_right (h : HD fbL fnL K mg) : ∃ fd, (∃ dvs kws, FunD K "_law_right" "_law_right" (defArgs st_law_right) (defBody st_law_right) (defScope st_law_right) dvs kws (He.ga K "_law_right") fd ∧ dvs = da_law_right.dvs K ∧ kws = da_law_right.kws K) ∧ FnOk P w K mg base CX0 3 (He.ga K "_law_right") fd P_law_right (spD K mg dn_law_right) := by
  obtain ⟨fd, F⟩ := h.def_ 41 (d := da_law_right) rfl
  exact ⟨fd, ⟨_, _, F, rfl, rfl⟩, def_ok F sc_law_right mt_law_right (wf_law_right h)⟩
theorem pr_law_right_2 (h : HD fbL fnL K mg) {k : Nat} (hk : 3 ≤ k) : PrimOk ⟨P, w, K, mg, base, k⟩ (.call "_law_right") dn_law_right := by
  obtain ⟨fd, ⟨dvs, kws, F, e1, e2⟩, G⟩ := ok_law_right (P := P) (w := w) (base := base) h
  subst e1 e2
  have B : Binds K fd P_law_right [] := FunD.bindsN (ps := P_law_right) (kws := []) F fun _ _ _ _ _ _ us hl => match us, hl with | [_, _], _ => rfl
  exact k_fn G hk (h.glo 85 rfl) F.kp B .nil conv0 rfl
/-! law -/
theorem sc_law : FnScope N_law P_law (defScope st_law) := ⟨rfl, rfl, rfl, by decide +kernel, rfl, by decide +kernel, by decide +kernel⟩
theorem mt_law : mtSs N_law (defScope st_law) ss_law (defBody st_law) = true := by kernel_rfl
theorem wf_law (h : HD fbL fnL K mg) : WfTs ⟨P, w, K, mg, base, 8⟩ ss_law := ⟨⟨⟨(h.free 3 rfl), ⟨k_max (h.free 2 rfl), ⟨trivial, ⟨⟨k_min (h.free 1 rfl), ⟨trivial, ⟨⟨k_len (h.free 0 rfl), ⟨trivial, trivial⟩⟩, trivial⟩⟩⟩, trivial⟩⟩⟩⟩, ⟨⟨(pr_law_deck_2 h (by decide)), ⟨trivial, ⟨trivial, trivial⟩⟩⟩, ⟨⟨⟨(pr_law_pool_1 h (by decide)), ⟨trivial, trivial⟩⟩, ⟨⟨k_eq, ⟨⟨(pr_law_draw_2 h (by decide)), ⟨trivial, ⟨trivial, trivial⟩⟩⟩, ⟨trivial, trivial⟩⟩⟩, trivial⟩⟩, ⟨⟨(pr_law_chain_3 h (by decide)), ⟨trivial, ⟨trivial, ⟨⟨(pr_law_pick_2 h (by decide)), ⟨trivial, ⟨⟨trivial, ⟨trivial, ⟨trivial, ⟨trivial, ⟨trivial, ⟨trivial, ⟨⟨k_add, ⟨trivial, ⟨⟨(pr_law_draw_2 h (by decide)), ⟨trivial, ⟨trivial, trivial⟩⟩⟩, trivial⟩⟩⟩, trivial⟩⟩⟩⟩⟩⟩⟩, trivial⟩⟩⟩, trivial⟩⟩⟩⟩, ⟨⟨trivial, trivial, ⟨(pr_law_edition_1 h (by decide)), ⟨trivial, trivial⟩⟩⟩, ⟨⟨⟨(pr_law_plan_2 h (by decide)), ⟨trivial, ⟨trivial, trivial⟩⟩⟩, ⟨⟨(pr_law_plan_2 h (by decide)), ⟨trivial, ⟨trivial, trivial⟩⟩⟩, trivial⟩⟩, ⟨⟨k_reverse, trivial, trivial⟩, ⟨⟨k_append, trivial, ⟨⟨(mk_Edition_1 h (by decide)), ⟨trivial, trivial⟩⟩, trivial⟩⟩, ⟨⟨⟨⟨(pr_law_right_2 h (by decide)), ⟨trivial, ⟨⟨(pr_law_table_2 h (by decide)), ⟨trivial, ⟨trivial, trivial⟩⟩⟩, trivial⟩⟩⟩, ⟨⟨(pr_law_right_2 h (by decide)), ⟨trivial, ⟨⟨(pr_law_table_2 h (by decide)), ⟨trivial, ⟨trivial, trivial⟩⟩⟩, trivial⟩⟩⟩, trivial⟩⟩, ⟨trivial, trivial⟩, trivial⟩, ⟨⟨(pr_law_plan_2 h (by decide)), ⟨⟨trivial, trivial, ⟨(pr_law_edition_1 h (by decide)), ⟨trivial, trivial⟩⟩⟩, ⟨trivial, trivial⟩⟩⟩, ⟨⟨⟨⟨k_ne, ⟨⟨(pa_steps h), ⟨trivial, trivial⟩⟩, ⟨⟨(pa_steps h), ⟨trivial, trivial⟩⟩, trivial⟩⟩⟩, ⟨⟨k_ne, ⟨⟨(pa_cells h), ⟨trivial, trivial⟩⟩, ⟨⟨(pa_cells h), ⟨trivial, trivial⟩⟩, trivial⟩⟩⟩, ⟨⟨k_ne, ⟨⟨pp_Plan_is_possible h (by decide), ⟨trivial, trivial⟩⟩, ⟨⟨pp_Plan_is_possible h (by decide), ⟨trivial, trivial⟩⟩, trivial⟩⟩⟩, trivial⟩⟩⟩, ⟨trivial, trivial⟩, trivial⟩, trivial⟩⟩⟩⟩⟩⟩⟩⟩⟩⟩⟩, ⟨trivial, trivial⟩⟩
theorem ok_law (h : HD fbL fnL K mg) : ∃ fd, (∃ dvs kws, FunD K "law" "law" (defArgs st_law) (defBody st_law) (defScope st_law) dvs kws (He.ga K "law") fd ∧ dvs = da_law.dvs K ∧ kws = da_law.kws K) ∧ FnOk P w K mg base CX0 9 (He.ga K "law") fd P_law (spD K mg dn_law) := by
  obtain ⟨fd, F⟩ := h.def_ 42 (d := da_law) rfl
  exact ⟨fd, ⟨_, _, F, rfl, rfl⟩, def_ok F sc_law mt_law (wf_law h)⟩
end
theorem factsL {P : Program} {w : World} {K : PySem.W.Frag} {h : Heap} {mg : Str → Option Value} {f : Addr} (X : K.In h) (G : h.Ns mainGlobals mg) (hfa : mg ("law" : Str) = some (.ref f)) (c : obM fbL fnL K = vaM fnL) :
    ∃ fd : FuncData, (∀ (s : Shared) (v : Value), BindsTo s fd ⟨[v], []⟩ [("_law_script", v)]) ∧ ∀ base : Heap, FnOk P w K mg base CX0 9 f fd ["_law_script"] (spD K mg dn_law) := by
  have hd : HD fbL fnL K mg := ⟨⟨h, X, G⟩, c⟩
  obtain ⟨fd, F⟩ := hd.def_ 42 (d := da_law) rfl
  have e := hfa.symm.trans (hd.glo (x := "law") 86 rfl)
  cases e
  have b := FunD.bindsA (ps := P_law) (kws := []) F fun _ _ _ _ _ _ us hl => match us, hl with | [_], _ => rfl
  exact ⟨fd, fun s v => b s [v] rfl, fun base => def_ok F sc_law mt_law (wf_law hd)⟩
end Mp
open PySem PySem.W PySem.Calls PyProof.Rows
theorem Mp.row_holds (plain : ∀ ns : List Int, ns.length ≤ 63 → Mp.dn_law [.d (.scr (ns.map Mp.D.int))] (fun r _ => r = .d (.bl true)) (fun _ _ => False)) : PySem.Challenge.rw_letineditions_k79_whole_plans_or_cells.Holds := by
  w_on; o_law
  refine HandSHeadRun.head_any (r := OpenLaw.row PySem.Challenge.rw_letineditions_k79_whole_plans_or_cells) (q := view (OpenLaw.row PySem.Challenge.rw_letineditions_k79_whole_plans_or_cells).prog [67]) (H := Mp.hkL) (ob := Mp.obL) (M := 20000) (loose := Mp.loL) (d := HandSHeadRun.topDef (OpenLaw.row PySem.Challenge.rw_letineditions_k79_whole_plans_or_cells).prog 67) (kwd := []) Mp.obL_eq
    (by kernel_rfl) (fun s => by kernel_rfl) Mp.runL (by kernel_rfl) (by kernel_rfl) (by kernel_rfl) (by rfl) (by first | assumption | decide +kernel) (by decide +kernel) ⟨rfl, rfl, rfl, rfl, rfl, by decide +kernel⟩ ?hw ?hc
  case hw => w_witness2
  case hc =>
    refine L2.walk_ofE (l := PySem.Challenge.rw_letineditions_k79_whole_plans_or_cells) (n := 63) (k := 9) (x := "_law_script") (CX := L2.CX0) rfl (by decide) (by kernel_rfl) ⟨rfl, by decide, by decide⟩ ?F (fun _ _ _ _ z => z)
    intro w mg fa h Y G hmg0
    obtain ⟨K, KX, c⟩ := Y
    have hmg : mg ("law" : PySem.Str) = some (.ref fa) := by
      have e : (HandSHeadRun.topDef (OpenLaw.row PySem.Challenge.rw_letineditions_k79_whole_plans_or_cells).prog 67).name = ("law" : PySem.Str) := by kernel_rfl
      rw [← e]
      exact hmg0
    obtain ⟨fd, hb, hF⟩ := Mp.factsL (P := (PySem.Challenge.rw_letineditions_k79_whole_plans_or_cells).prog) (w := w) KX G hmg c
    exact ⟨K, fd, Mp.spD K mg Mp.dn_law, KX, hb, fun H a ns hl _ hS => Mp.spD_law hS (plain ns hl), fun base _ _ => hF base⟩
theorem PySem.Challenge.cw_letineditions_k79_whole_plans_or_cells_holds : PySem.Challenge.rw_letineditions_k79_whole_plans_or_cells.Holds := by
  exact Mp.row_holds fun ns h => Mp.spec_law ns h
